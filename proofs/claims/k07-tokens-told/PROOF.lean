import PyProof.Rows.All
import Wide.All
import OpenK.AllK
import Wide.FinOn
import HandS.ForMost
import HandS.ForExc
import HandS.TupAny
import HandS.Wide
import HandS.IsInst
import HandS.CallSlots
import HandS.StrMore
import KE.BitLaws
import PyProof.Rows.StrFirst
import HandS.NoneIn
import HandS.Dict
import PyProof.EnumMake
import PyProof.Draws
import KE.GoesMore
import HandS.Steps
import PySem.Challenge.RW_linepress_k07_tokens_told
set_option Elab.async false
set_option linter.all false
set_option maxRecDepth 100000
set_option maxHeartbeats 4000000
/-! LPCore: values W, cells, the relation to the abstract heap, readings by plain functions -/
namespace LP
open PySem PySem.Spec L2

inductive W where
  | non | bl (b : Bool) | int (i : Int) | str (x : Str)
  | tup (xs : List W) | lst (xs : List W) | fro (xs : List W) | obj (c : Str) (ks : List Str) (vs : List W) | loc (n : Nat)

inductive Cell where
  | lst (xs : List W) | ins (c : Str) (ks : List Str) (vs : List W) | dead

abbrev Mem := List Cell
abbrev Rho := List (Option W)

inductive Res (α : Type) where
  | ok (a : α) (M : Mem) | exc (c : Str) (e : Option Int) (M : Mem) | bad

inductive SRes where
  | nx (ρ : Rho) (M : Mem) | rt (w : W) (M : Mem) | bk (ρ : Rho) (M : Mem) | ct (ρ : Rho) (M : Mem) | exc (c : Str) (e : Option Int) (ρ : Rho) (M : Mem) | bad

/-- classes' addresses -/
abbrev CT := Str → Option Addr

def KT (K : PySem.W.Frag) (a : Addr) (xs : List V) : Prop := ∃ (o : Obj) (its : Array Value) (n : Nat), K.lookup a = some o ∧ o.cls = .type "tuple" ∧ o.data = .seq its n ∧ its.size ≤ sizeLine ∧ Vals xs its.toList
def KL (K : PySem.W.Frag) (a : Addr) (xs : List V) : Prop := ∃ (o : Obj) (its : Array Value) (n : Nat), K.lookup a = some o ∧ o.cls = .type "list" ∧ o.dict = none ∧ o.data = .seq its n ∧ its.size ≤ sizeLine ∧ Vals xs its.toList

section
variable (K : PySem.W.Frag) (ct : CT) (S : Addr → Prop) (φ : List Addr) (H : Hp)
def Im (a : Addr) : Prop := ¬ S a ∧ a ∉ φ
mutual
def RV : W → V → Prop
  | .non, v => v = .non
  | .bl b, v => v = .bl b
  | .int i, v => v = .int i
  | .str x, v => v = .str x
  | .tup ws, v => ∃ a vs, v = .ref a ∧ ((Rd H a (.tup vs) ∧ Im S φ a) ∨ KT K a vs) ∧ RVs ws vs
  | .lst ws, v => ∃ a vs, v = .ref a ∧ (H a = some (.lst vs) ∧ Im S φ a) ∧ RVs ws vs
  | .fro ws, v => ∃ a vs, v = .ref a ∧ ((Rd H a (.lst vs) ∧ Im S φ a) ∨ KL K a vs) ∧ RVs ws vs
  | .obj c ks ws, v => ∃ a C dx fs, v = .ref a ∧ (H a = some (.ins C dx fs) ∧ Im S φ a ∧ ct c = some C ∧ fs.map (·.1) = ks) ∧ RVs ws (fs.map (·.2))
  | .loc n, v => ∃ a, v = .ref a ∧ φ[n]? = some a
def RVs : List W → List V → Prop
  | [], vs => vs = []
  | w :: ws, vs => ∃ v r, vs = v :: r ∧ RV w v ∧ RVs ws r
end
def RC : Cell → Addr → Prop
  | .lst ws, a => ∃ vs, H a = some (.lst vs) ∧ RVs K ct S φ H ws vs
  | .ins c ks ws, a => ∃ C dx fs, H a = some (.ins C dx fs) ∧ ct c = some C ∧ fs.map (·.1) = ks ∧ RVs K ct S φ H ws (fs.map (·.2))
  | .dead, _ => True
structure RM (M : Mem) : Prop where
  len : φ.length = M.length
  nd : φ.Nodup
  liveS : ∀ a, S a → H a ≠ none
  disj : ∀ a ∈ φ, ¬ S a
  live : ∀ a ∈ φ, H a ≠ none
  cell : ∀ (n : Nat) (c : Cell) (a : Addr), M[n]? = some c → φ[n]? = some a → RC K ct S φ H c a
structure SR (ρ : Rho) (M : Mem) (σ : St) : Prop where
  len : ρ.length = σ.length
  slot : ∀ (i : Nat) (w : W), ρ[i]? = some (some w) → ∃ v, σ[i]? = some (some v) ∧ RV K ct S φ H w v
  mem : RM K ct S φ H M
end

structure Le (φ : List Addr) (H : Hp) (φ' : List Addr) (H' : Hp) : Prop where
  pre : ∃ ψ, φ' = φ ++ ψ
  keep : ∀ a o, H a = some o → a ∉ φ → H' a = some o
  live : ∀ a, H a ≠ none → H' a ≠ none
  new : ∀ a, H a ≠ none → a ∈ φ' → a ∈ φ

theorem Le.refl (φ : List Addr) (H : Hp) : Le φ H φ H := ⟨⟨[], by simp⟩, fun _ _ h _ => h, fun _ h => h, fun _ _ h => h⟩
theorem Le.trans {φ φ1 φ2 : List Addr} {H H1 H2 : Hp} (a : Le φ H φ1 H1) (b : Le φ1 H1 φ2 H2) : Le φ H φ2 H2 := by
  obtain ⟨ψ1, e1⟩ := a.pre
  obtain ⟨ψ2, e2⟩ := b.pre
  refine ⟨⟨ψ1 ++ ψ2, by rw [e2, e1, List.append_assoc]⟩, fun c o h n => ?_, fun c h => b.live c (a.live c h), fun c h m => ?_⟩
  · exact b.keep c o (a.keep c o h n) fun z => n (a.new c (by rw [h]; simp) z)
  · exact a.new c h (b.new c (a.live c h) m)
theorem Le.get {φ φ' : List Addr} {H H' : Hp} (l : Le φ H φ' H') {n : Nat} {a : Addr} (h : φ[n]? = some a) : φ'[n]? = some a := by
  obtain ⟨ψ, e⟩ := l.pre
  rw [e, List.getElem?_append_left (List.getElem?_eq_some_iff.mp h).1]
  exact h
theorem Le.im {φ φ' : List Addr} {H H' : Hp} {S : Addr → Prop} (l : Le φ H φ' H') {a : Addr} (h : H a ≠ none) (i : Im S φ a) : Im S φ' a := ⟨i.1, fun z => i.2 (l.new a h z)⟩
theorem Le.rd {φ φ' : List Addr} {H H' : Hp} (l : Le φ H φ' H') {a : Addr} {u : HO} (h : Rd H a u) (n : a ∉ φ) : Rd H' a u := by
  rcases h with h | ⟨o, h⟩
  · exact .inl (l.keep a _ h n)
  · exact .inr ⟨o, l.keep a _ h n⟩
theorem nodupG {α : Type} {N : List α} (hN : N.Nodup) {i j : Nat} {x : α} (a : N[i]? = some x) (b : N[j]? = some x) : i = j := by
  obtain ⟨h1, e1⟩ := List.getElem?_eq_some_iff.mp a
  obtain ⟨h2, e2⟩ := List.getElem?_eq_some_iff.mp b
  exact (List.getElem_inj hN).mp (e1.trans e2.symm)
theorem Rd.some {H : Hp} {a : Addr} {u : HO} (h : Rd H a u) : H a ≠ none := by
  rcases h with h | ⟨o, h⟩ <;> rw [h] <;> simp

section
variable {K : PySem.W.Frag} {ct : CT} {S S' : Addr → Prop} {φ φ' : List Addr} {H H' : Hp}
mutual
theorem RV.mono (l : Le φ H φ' H') : ∀ (w : W) (v : V), RV K ct S φ H w v → RV K ct S φ' H' w v
  | .non, _, h => h
  | .bl _, _, h => h
  | .int _, _, h => h
  | .str _, _, h => h
  | .tup ws, _, ⟨a, vs, e, h, r⟩ => ⟨a, vs, e, h.imp (fun q => ⟨l.rd q.1 q.2.2, l.im (Rd.some q.1) q.2⟩) id, RVs.mono l ws vs r⟩
  | .lst ws, _, ⟨a, vs, e, h, r⟩ => ⟨a, vs, e, ⟨l.keep a _ h.1 h.2.2, l.im (by rw [h.1]; simp) h.2⟩, RVs.mono l ws vs r⟩
  | .fro ws, _, ⟨a, vs, e, h, r⟩ => ⟨a, vs, e, h.imp (fun q => ⟨l.rd q.1 q.2.2, l.im (Rd.some q.1) q.2⟩) id, RVs.mono l ws vs r⟩
  | .obj c ks ws, _, ⟨a, C, dx, fs, e, h, r⟩ => ⟨a, C, dx, fs, e, ⟨l.keep a _ h.1 h.2.1.2, l.im (by rw [h.1]; simp) h.2.1, h.2.2⟩, RVs.mono l ws _ r⟩
  | .loc n, _, ⟨a, e, h⟩ => ⟨a, e, l.get h⟩
theorem RVs.mono (l : Le φ H φ' H') : ∀ (ws : List W) (vs : List V), RVs K ct S φ H ws vs → RVs K ct S φ' H' ws vs
  | [], _, h => h
  | w :: ws, _, ⟨v, r, e, h, q⟩ => ⟨v, r, e, RV.mono l w v h, RVs.mono l ws r q⟩
end
mutual
/-- free of locations -/
def lf : W → Bool
  | .tup ws => lfs ws
  | .lst ws => lfs ws
  | .fro ws => lfs ws
  | .obj _ _ ws => lfs ws
  | .loc _ => false
  | _ => true
def lfs : List W → Bool
  | [] => true
  | w :: ws => lf w && lfs ws
end
-- other owners: what is free of locations stays
mutual
theorem RV.own (k : ∀ a, H a ≠ none → Im S φ a → Im S' φ' a) : ∀ (w : W) (v : V), lf w = true → RV K ct S φ H w v → RV K ct S' φ' H w v
  | .non, _, _, h => h
  | .bl _, _, _, h => h
  | .int _, _, _, h => h
  | .str _, _, _, h => h
  | .tup ws, _, f, ⟨a, vs, e, h, r⟩ => ⟨a, vs, e, h.imp (fun q => ⟨q.1, k a (Rd.some q.1) q.2⟩) id, RVs.own k ws vs f r⟩
  | .lst ws, _, f, ⟨a, vs, e, h, r⟩ => ⟨a, vs, e, ⟨h.1, k a (by rw [h.1]; simp) h.2⟩, RVs.own k ws vs f r⟩
  | .fro ws, _, f, ⟨a, vs, e, h, r⟩ => ⟨a, vs, e, h.imp (fun q => ⟨q.1, k a (Rd.some q.1) q.2⟩) id, RVs.own k ws vs f r⟩
  | .obj c ks ws, _, f, ⟨a, C, dx, fs, e, h, r⟩ => ⟨a, C, dx, fs, e, ⟨h.1, k a (by rw [h.1]; simp) h.2.1, h.2.2⟩, RVs.own k ws _ f r⟩
  | .loc n, _, f, _ => absurd (show false = true from f) Bool.false_ne_true
theorem RVs.own (k : ∀ a, H a ≠ none → Im S φ a → Im S' φ' a) : ∀ (ws : List W) (vs : List V), lfs ws = true → RVs K ct S φ H ws vs → RVs K ct S' φ' H ws vs
  | [], _, _, h => h
  | w :: ws, _, f, ⟨v, r, e, h, q⟩ => by
    have f' : (lf w && lfs ws) = true := f
    rw [Bool.and_eq_true] at f'
    exact ⟨v, r, e, RV.own k w v f'.1 h, RVs.own k ws r f'.2 q⟩
end
-- the same locations, fewer or more owners
mutual
theorem RV.ownL (k : ∀ a, H a ≠ none → Im S φ a → Im S' φ a) : ∀ (w : W) (v : V), RV K ct S φ H w v → RV K ct S' φ H w v
  | .non, _, h => h
  | .bl _, _, h => h
  | .int _, _, h => h
  | .str _, _, h => h
  | .tup ws, _, ⟨a, vs, e, h, r⟩ => ⟨a, vs, e, h.imp (fun q => ⟨q.1, k a (Rd.some q.1) q.2⟩) id, RVs.ownL k ws vs r⟩
  | .lst ws, _, ⟨a, vs, e, h, r⟩ => ⟨a, vs, e, ⟨h.1, k a (by rw [h.1]; simp) h.2⟩, RVs.ownL k ws vs r⟩
  | .fro ws, _, ⟨a, vs, e, h, r⟩ => ⟨a, vs, e, h.imp (fun q => ⟨q.1, k a (Rd.some q.1) q.2⟩) id, RVs.ownL k ws vs r⟩
  | .obj c ks ws, _, ⟨a, C, dx, fs, e, h, r⟩ => ⟨a, C, dx, fs, e, ⟨h.1, k a (by rw [h.1]; simp) h.2.1, h.2.2⟩, RVs.ownL k ws _ r⟩
  | .loc n, _, h => h
theorem RVs.ownL (k : ∀ a, H a ≠ none → Im S φ a → Im S' φ a) : ∀ (ws : List W) (vs : List V), RVs K ct S φ H ws vs → RVs K ct S' φ H ws vs
  | [], _, h => h
  | w :: ws, _, ⟨v, r, e, h, q⟩ => ⟨v, r, e, RV.ownL k w v h, RVs.ownL k ws r q⟩
end

theorem RVs.length : ∀ {ws : List W} {vs : List V}, RVs K ct S φ H ws vs → ws.length = vs.length
  | [], vs, h => by
    have e : vs = [] := h
    rw [e]
    rfl
  | _ :: _, _, ⟨_, _, e, _, q⟩ => by rw [e, List.length_cons, List.length_cons, RVs.length q]
theorem RVs.get : ∀ {ws : List W} {vs : List V} {i : Nat} {w : W}, RVs K ct S φ H ws vs → ws[i]? = some w → ∃ v, vs[i]? = some v ∧ RV K ct S φ H w v
  | [], _, _, _, _, e => by simp at e
  | _ :: _, _, 0, _, ⟨v, r, e, h, _⟩, e2 => by
    simp at e2
    subst e2
    exact ⟨v, by rw [e]; rfl, h⟩
  | _ :: _, _, i + 1, _, ⟨v, r, e, _, q⟩, e2 => by
    obtain ⟨v', h1, h2⟩ := RVs.get (i := i) q (by simpa using e2)
    exact ⟨v', by rw [e]; simpa using h1, h2⟩
theorem RVs.append : ∀ {ws ws' : List W} {vs vs' : List V}, RVs K ct S φ H ws vs → RVs K ct S φ H ws' vs' → RVs K ct S φ H (ws ++ ws') (vs ++ vs')
  | [], _, _, _, h, h' => by
    rw [show _ = [] from h]
    exact h'
  | _ :: _, _, _, _, ⟨v, r, e, h, q⟩, h' => by
    rw [e]
    exact ⟨v, r ++ _, rfl, h, RVs.append q h'⟩
theorem RVs.take : ∀ {ws : List W} {vs : List V} (n : Nat), RVs K ct S φ H ws vs → RVs K ct S φ H (ws.take n) (vs.take n)
  | _, _, 0, _ => by simp [RVs]
  | [], _, _ + 1, h => by
    rw [show _ = [] from h]
    simp [RVs]
  | _ :: _, _, n + 1, ⟨v, r, e, h, q⟩ => by
    rw [e]
    exact ⟨v, r.take n, rfl, h, RVs.take n q⟩
theorem RVs.drop : ∀ {ws : List W} {vs : List V} (n : Nat), RVs K ct S φ H ws vs → RVs K ct S φ H (ws.drop n) (vs.drop n)
  | _, _, 0, h => by simpa using h
  | [], _, _ + 1, h => by
    rw [show _ = [] from h]
    simp [RVs]
  | _ :: _, _, n + 1, ⟨v, r, e, _, q⟩ => by
    rw [e]
    simpa using RVs.drop n q
theorem RVs.set {w : W} {v : V} (hw : RV K ct S φ H w v) : ∀ {ws : List W} {vs : List V} (n : Nat), RVs K ct S φ H ws vs → RVs K ct S φ H (ws.set n w) (vs.set n v)
  | [], _, _, h => by
    rw [show _ = [] from h]
    simp [RVs]
  | _ :: _, _, 0, ⟨_, r, e, _, q⟩ => by
    rw [e]
    exact ⟨v, r, rfl, hw, q⟩
  | _ :: _, _, n + 1, ⟨u, r, e, h, q⟩ => by
    rw [e]
    exact ⟨u, _, rfl, h, RVs.set hw n q⟩
theorem RVs.one {w : W} {v : V} (h : RV K ct S φ H w v) : RVs K ct S φ H [w] [v] := ⟨v, [], rfl, h, rfl⟩
theorem RVs.nil : RVs K ct S φ H [] [] := rfl
theorem RVs.cons {w : W} {v : V} {ws : List W} {vs : List V} (h : RV K ct S φ H w v) (t : RVs K ct S φ H ws vs) : RVs K ct S φ H (w :: ws) (v :: vs) := ⟨v, vs, rfl, h, t⟩
theorem RVs.reverse : ∀ {ws : List W} {vs : List V}, RVs K ct S φ H ws vs → RVs K ct S φ H ws.reverse vs.reverse
  | [], _, h => by
    rw [show _ = [] from h]
    exact rfl
  | w :: ws, _, ⟨v, r, e, h, q⟩ => by
    rw [e, List.reverse_cons, List.reverse_cons]
    exact RVs.append (RVs.reverse q) (RVs.one h)
theorem RVs.flat {ws : List W} {vs : List V} (h : RVs K ct S φ H ws vs) : ∀ k : Nat, RVs K ct S φ H (List.replicate k ws).flatten (List.replicate k vs).flatten
  | 0 => rfl
  | k + 1 => by
    rw [List.replicate_succ, List.replicate_succ, List.flatten_cons, List.flatten_cons]
    exact RVs.append h (RVs.flat h k)
theorem RVs.ints : ∀ (ns : List Int), RVs K ct S φ H (ns.map W.int) (ns.map V.int)
  | [] => rfl
  | n :: ns => ⟨_, _, rfl, rfl, RVs.ints ns⟩
theorem RVs.strs : ∀ (ns : List Str), RVs K ct S φ H (ns.map W.str) (ns.map V.str)
  | [] => rfl
  | n :: ns => ⟨_, _, rfl, rfl, RVs.strs ns⟩

theorem RC.mono (l : Le φ H φ' H') {c : Cell} {a : Addr} (keep : H' a = H a) (h : RC K ct S φ H c a) : RC K ct S φ' H' c a := by
  cases c with
  | lst ws =>
    obtain ⟨vs, e, r⟩ := h
    exact ⟨vs, keep.trans e, RVs.mono l _ _ r⟩
  | ins c ks ws =>
    obtain ⟨C, dx, fs, e, h1, h2, r⟩ := h
    exact ⟨C, dx, fs, keep.trans e, h1, h2, RVs.mono l _ _ r⟩
  | dead => trivial
/-- a new object, not a cell -/
theorem Le.upd {p : Addr} {o : HO} (hp : H p = none) (hφ : p ∉ φ) : Le φ H φ (upd H p o) := by
  refine ⟨⟨[], by simp⟩, fun a u h _ => ?_, fun a h => ?_, fun _ _ m => m⟩
  · rw [upd_ne (ne_of_none h hp)]; exact h
  · by_cases e : a = p
    · rw [e, upd_same]; simp
    · rw [upd_ne e]; exact h
theorem RM.fresh {M : Mem} (r : RM K ct S φ H M) {p : Addr} (hp : H p = none) : p ∉ φ ∧ ¬ S p := ⟨fun z => r.live p z hp, fun z => r.liveS p z hp⟩
theorem RM.laid {M : Mem} (r : RM K ct S φ H M) {p : Addr} {o : HO} (hp : H p = none) : RM K ct S φ (upd H p o) M := by
  have l : Le φ H φ (upd H p o) := Le.upd hp (r.fresh hp).1
  refine ⟨r.len, r.nd, fun a h => l.live a (r.liveS a h), r.disj, fun a h => l.live a (r.live a h), fun n c a h1 h2 => (r.cell n c a h1 h2).mono l ?_⟩
  have : a ≠ p := fun e => (r.fresh hp).1 (e ▸ List.mem_of_getElem? h2)
  exact upd_ne this
theorem SR.laid {ρ : Rho} {M : Mem} {σ : St} (r : SR K ct S φ H ρ M σ) {p : Addr} {o : HO} (hp : H p = none) : SR K ct S φ (upd H p o) ρ M σ := by
  refine ⟨r.len, fun i w h => ?_, r.mem.laid hp⟩
  obtain ⟨v, h1, h2⟩ := r.slot i w h
  exact ⟨v, h1, RV.mono (Le.upd hp (r.mem.fresh hp).1) _ _ h2⟩
theorem SR.le {ρ : Rho} {M : Mem} {σ : St} (r : SR K ct S φ H ρ M σ) {p : Addr} {o : HO} (hp : H p = none) : Le φ H φ (upd H p o) := Le.upd hp (r.mem.fresh hp).1
/-- a new cell -/
theorem Le.cell {p : Addr} {o : HO} (hp : H p = none) : Le φ H (φ ++ [p]) (L2.upd H p o) := by
  refine ⟨⟨[p], rfl⟩, fun a u h _ => ?_, fun a h => ?_, fun a h m => ?_⟩
  · rw [upd_ne (ne_of_none h hp)]; exact h
  · by_cases e : a = p
    · rw [e, upd_same]; simp
    · rw [upd_ne e]; exact h
  · rcases List.mem_append.mp m with m | m
    · exact m
    · exact absurd hp (by rw [← List.mem_singleton.mp m]; exact h)
theorem RM.newCell {M : Mem} (r : RM K ct S φ H M) {p : Addr} {o : HO} {c : Cell} (hp : H p = none) (hc : RC K ct S (φ ++ [p]) (L2.upd H p o) c p) : RM K ct S (φ ++ [p]) (L2.upd H p o) (M ++ [c]) := by
  have l : Le φ H (φ ++ [p]) (L2.upd H p o) := Le.cell hp
  obtain ⟨f1, f2⟩ := r.fresh hp
  refine ⟨by rw [List.length_append, List.length_append, r.len]; rfl, ?_, fun a h => l.live a (r.liveS a h), fun a h => ?_, fun a h => ?_, fun n d a h1 h2 => ?_⟩
  · rw [List.nodup_append]
    exact ⟨r.nd, by simp, fun a h b h' e => f1 (by rw [← List.mem_singleton.mp h', ← e]; exact h)⟩
  · rcases List.mem_append.mp h with h | h
    · exact r.disj a h
    · rw [List.mem_singleton.mp h]; exact f2
  · rcases List.mem_append.mp h with h | h
    · exact l.live a (r.live a h)
    · rw [List.mem_singleton.mp h, upd_same]; simp
  · by_cases hn : n < M.length
    · rw [List.getElem?_append_left hn] at h1
      rw [List.getElem?_append_left (by rw [r.len]; exact hn)] at h2
      refine (r.cell n d a h1 h2).mono l (upd_ne fun e => f1 (e ▸ List.mem_of_getElem? h2))
    · have hn' : n = M.length := by
        have := (List.getElem?_eq_some_iff.mp h1).1
        rw [List.length_append] at this
        simp at this
        omega
      subst hn'
      rw [← r.len, List.getElem?_append_right (Nat.le_refl _)] at h2
      rw [List.getElem?_append_right (Nat.le_refl _)] at h1
      simp at h1 h2
      subst h1 h2
      exact hc
/-- a cell written -/
theorem Le.write {a : Addr} {o : HO} (h : a ∈ φ) : Le φ H φ (L2.upd H a o) := by
  refine ⟨⟨[], by simp⟩, fun b u q n => ?_, fun b q => ?_, fun _ _ m => m⟩
  · rw [upd_ne fun e => n (by rw [e]; exact h)]; exact q
  · by_cases e : b = a
    · rw [e, upd_same]; simp
    · rw [upd_ne e]; exact q
theorem RM.write {M : Mem} (r : RM K ct S φ H M) {n : Nat} {a : Addr} {o : HO} {c : Cell} (ha : φ[n]? = some a) (hc : RC K ct S φ (L2.upd H a o) c a) : RM K ct S φ (L2.upd H a o) (M.set n c) := by
  have l : Le φ H φ (L2.upd H a o) := Le.write (List.mem_of_getElem? ha)
  refine ⟨by rw [List.length_set]; exact r.len, r.nd, fun b h => l.live b (r.liveS b h), r.disj, fun b h => l.live b (r.live b h), fun m d b h1 h2 => ?_⟩
  by_cases e : m = n
  · subst e
    rw [ha] at h2
    cases h2
    have hl : m < M.length := by
      have := (List.getElem?_eq_some_iff.mp ha).1
      rw [r.len] at this
      exact this
    rw [List.getElem?_set_self hl] at h1
    cases h1
    exact hc
  · rw [List.getElem?_set_ne (Ne.symm e)] at h1
    refine (r.cell m d b h1 h2).mono l (upd_ne fun q => e ?_)
    subst q
    exact nodupG r.nd h2 ha
theorem SR.write {ρ : Rho} {M : Mem} {σ : St} (r : SR K ct S φ H ρ M σ) {n : Nat} {a : Addr} {o : HO} {c : Cell} (ha : φ[n]? = some a) (hc : RC K ct S φ (L2.upd H a o) c a) : SR K ct S φ (L2.upd H a o) ρ (M.set n c) σ := by
  refine ⟨r.len, fun i w h => ?_, r.mem.write ha hc⟩
  obtain ⟨v, h1, h2⟩ := r.slot i w h
  exact ⟨v, h1, RV.mono (Le.write (List.mem_of_getElem? ha)) _ _ h2⟩
theorem SR.newCell {ρ : Rho} {M : Mem} {σ : St} (r : SR K ct S φ H ρ M σ) {p : Addr} {o : HO} {c : Cell} (hp : H p = none) (hc : RC K ct S (φ ++ [p]) (L2.upd H p o) c p) : SR K ct S (φ ++ [p]) (L2.upd H p o) ρ (M ++ [c]) σ := by
  refine ⟨r.len, fun i w h => ?_, r.mem.newCell hp hc⟩
  obtain ⟨v, h1, h2⟩ := r.slot i w h
  exact ⟨v, h1, RV.mono (Le.cell hp) _ _ h2⟩
theorem SR.set {ρ : Rho} {M : Mem} {σ : St} (r : SR K ct S φ H ρ M σ) {i : Nat} {w : W} {v : V} (h : RV K ct S φ H w v) : SR K ct S φ H (ρ.set i (some w)) M (σ.set i (some v)) := by
  refine ⟨by rw [List.length_set, List.length_set]; exact r.len, fun j u h' => ?_, r.mem⟩
  by_cases e : i = j
  · subst e
    have hl : i < ρ.length := by
      have := (List.getElem?_eq_some_iff.mp h').1
      rw [List.length_set] at this
      exact this
    rw [List.getElem?_set_self hl] at h'
    cases h'
    exact ⟨v, by rw [List.getElem?_set_self (by rw [← r.len]; exact hl)], h⟩
  · rw [List.getElem?_set_ne e] at h'
    obtain ⟨v', h1, h2⟩ := r.slot j u h'
    exact ⟨v', by rw [List.getElem?_set_ne e]; exact h1, h2⟩
end

/-- an exception's form -/
def XR (ct : CT) (H : Hp) (c : Str) (e : Option Int) (cls : Value) (d : Option Addr) : Prop :=
  ∃ C, ct c = some C ∧ cls = .ref C ∧ match e with
    | none => d = none
    | some i => ∃ a, d = some a ∧ H a = some (.xd [("at", .int i)])

end LP

namespace LP
open PySem PySem.Spec L2

/-! ### readings by functions -/
def Res.bind {α β : Type} (r : Res α) (k : α → Mem → Res β) : Res β := match r with
  | .ok a M => k a M
  | .exc c e M => .exc c e M
  | .bad => .bad
theorem Res.bind_ok {α β : Type} {a : α} {M : Mem} {k : α → Mem → Res β} : (Res.ok a M).bind k = k a M := rfl
theorem Res.bind_exc {α β : Type} {c : Str} {e : Option Int} {M : Mem} {k : α → Mem → Res β} : (Res.exc c e M).bind k = .exc c e M := rfl
theorem Res.bind_bad {α β : Type} {k : α → Mem → Res β} : (Res.bad : Res α).bind k = .bad := rfl

/-- what is wanted behind an outcome -/
abbrev RelT (α β : Type) := (Addr → Prop) → List Addr → Hp → α → β → Prop
def PostG {α β : Type} (K : PySem.W.Frag) (ct : CT) (Wx : WX) (Rel : RelT α β) (S : Addr → Prop) (φ : List Addr) (H : Hp) (ρ : Rho) (σ : L2.St) (r : Res α) (Q : β → Hp → Prop) : Prop := match r with
  | .ok a M => ∀ φ' H' b, Le φ H φ' H' → SR K ct S φ' H' ρ M σ → Rel S φ' H' a b → Q b H'
  | .exc c e M => ∀ φ' H' cls d, Le φ H φ' H' → SR K ct S φ' H' ρ M σ → XR ct H' c e cls d → Wx cls d σ H'
  | .bad => False
def rdG {α β : Type} (K : PySem.W.Frag) (ct : CT) (Wx : WX) (Rel : RelT α β) (d : Rho → Mem → Res α) : L2.St → Hp → (β → Hp → Prop) → Prop := fun σ H Q =>
  ∃ S φ ρ M, SR K ct S φ H ρ M σ ∧ PostG K ct Wx Rel S φ H ρ σ (d ρ M) Q
section
variable {K : PySem.W.Frag} {ct : CT} {Wx : WX} {α β γ δ : Type} {Rel : RelT α β} {Rel' : RelT γ δ} {S : Addr → Prop} {φ φ' : List Addr} {H H' : Hp} {ρ : Rho} {M : Mem} {σ : L2.St} {r : Res α} {Q : β → Hp → Prop}
theorem PostG.le (l : Le φ H φ' H') (h : PostG K ct Wx Rel S φ H ρ σ r Q) : PostG K ct Wx Rel S φ' H' ρ σ r Q := by
  cases r with
  | ok a M => exact fun φ2 H2 b l2 => h φ2 H2 b (l.trans l2)
  | exc c e M => exact fun φ2 H2 cls d l2 => h φ2 H2 cls d (l.trans l2)
  | bad => exact h
theorem PostG.ok {a : α} {b : β} (sr : SR K ct S φ H ρ M σ) (rl : Rel S φ H a b) (h : PostG K ct Wx Rel S φ H ρ σ (.ok a M) Q) : Q b H := h φ H b (Le.refl _ _) sr rl
/-- one reading behind another -/
theorem PostG.bind {r : Res α} {k : α → Mem → Res γ} {R : β → Hp → Prop} {Q : δ → Hp → Prop} (h : PostG K ct Wx Rel' S φ H ρ σ (r.bind k) Q)
    (hR : ∀ φ1 H1 M1 a b, Le φ H φ1 H1 → SR K ct S φ1 H1 ρ M1 σ → Rel S φ1 H1 a b → PostG K ct Wx Rel' S φ1 H1 ρ σ (k a M1) Q → R b H1) : PostG K ct Wx Rel S φ H ρ σ r R := by
  cases r with
  | ok a M => exact fun φ1 H1 b l sr rl => hR φ1 H1 M a b l sr rl (PostG.le l (show PostG K ct Wx Rel' S φ H ρ σ (k a M) Q from h))
  | exc c e M => exact h
  | bad => exact h
end

abbrev RelW (K : PySem.W.Frag) (ct : CT) : RelT W V := fun S φ H => RV K ct S φ H
abbrev RelWs (K : PySem.W.Frag) (ct : CT) : RelT (List W) (List V) := fun S φ H => RVs K ct S φ H
abbrev RelB : RelT Bool Bool := fun _ _ _ a b => a = b
abbrev DEn := Rho → Mem → Res W
abbrev DTn := Rho → Mem → Res Bool
abbrev DAn := Rho → Mem → Res (List W)
abbrev rdE (K : PySem.W.Frag) (ct : CT) (Wx : WX) (d : DEn) : TE := rdG K ct Wx (RelW K ct) d
abbrev rdT (K : PySem.W.Frag) (ct : CT) (Wx : WX) (d : DTn) : TT := rdG K ct Wx RelB d
abbrev rdA (K : PySem.W.Frag) (ct : CT) (Wx : WX) (d : DAn) : TA := rdG K ct Wx (RelWs K ct) d
/-- a new list of these items -/
def rdL (K : PySem.W.Frag) (ct : CT) (Wx : WX) (d : DAn) : TE := fun σ H Q => rdG K ct Wx (RelWs K ct) d σ H fun vs H1 => ∀ p, H1 p = none → Q (.ref p) (upd H1 p (.lst vs))

structure DE (X : Cx) (ct : CT) (Wx : WX) (e : Expr) (d : DEn) : Prop where
  pe : PE X e (rdE X.K ct Wx d)
structure DT (X : Cx) (ct : CT) (Wx : WX) (e : Expr) (d : DTn) : Prop where
  pt : PT X e (rdT X.K ct Wx d)
structure DW (X : Cx) (ct : CT) (Wx : WX) (e : Expr) (d : DTn) : Prop where
  pw : PW X e (rdT X.K ct Wx d)
structure DA (X : Cx) (ct : CT) (Wx : WX) (es : List Expr) (d : DAn) : Prop where
  pa : PA X es (rdA X.K ct Wx d)
structure DL (X : Cx) (ct : CT) (Wx : WX) (e : Expr) (d : DAn) : Prop where
  pl : PE X e (rdL X.K ct Wx d)

theorem PE.imp {X : Cx} {e : Expr} {t t' : TE} (h : PE X e t) (i : ∀ σ H Q, t' σ H Q → t σ H Q) : PE X e t' := ⟨fun pins s σ H Q I q => h.run pins s σ H Q I (i σ H Q q)⟩
theorem PT.imp {X : Cx} {e : Expr} {t t' : TT} (h : PT X e t) (i : ∀ σ H Q, t' σ H Q → t σ H Q) : PT X e t' := ⟨fun pins s σ H Q I q => h.run pins s σ H Q I (i σ H Q q)⟩
theorem PW.imp {X : Cx} {e : Expr} {t t' : TT} (h : PW X e t) (i : ∀ σ H Q, t' σ H Q → t σ H Q) : PW X e t' := ⟨fun wh pins s σ H Q I q => h.run wh pins s σ H Q I (i σ H Q q)⟩
theorem PA.imp {X : Cx} {es : List Expr} {t t' : TA} (h : PA X es t) (i : ∀ σ H Q, t' σ H Q → t σ H Q) : PA X es t' := ⟨fun pos pins s σ H Q I q => h.run pos pins s σ H Q I (i σ H Q q)⟩

section
variable {X : Cx} {ct : CT} {Wx : WX} {pos : Pos}

/-! ### names, constants -/
def dVar (i : Nat) : DEn := fun ρ M => match ρ[i]? with
  | some (some w) => .ok w M
  | _ => .bad
theorem de_var {i : Nat} {e : Expr} (h : PE X e (tVar i)) : DE X ct Wx e (dVar i) := by
  refine ⟨PE.imp h fun σ H Q ⟨S, φ, ρ, M, sr, q⟩ => ?_⟩
  unfold dVar at q
  split at q
  · rename_i w e
    obtain ⟨v, h1, h2⟩ := sr.slot i w e
    exact ⟨v, h1, PostG.ok sr h2 q⟩
  · exact q.elim
def dC (w : W) : DEn := fun _ M => .ok w M
/-- a constant: the same whatever the heap -/
theorem de_con {e : Expr} {v : V} {w : W} (h : PE X e (fun _ H Q => Q v H)) (hw : ∀ S φ H, RV X.K ct S φ H w v) : DE X ct Wx e (dC w) :=
  ⟨PE.imp h fun σ H Q ⟨S, φ, ρ, M, sr, q⟩ => PostG.ok (Wx := Wx) (Rel := RelW X.K ct) sr (hw S φ H) q⟩
theorem de_int {i j} : DE X ct Wx (.Constant (.int i) j pos) (dC (.int i)) := de_con pe_int fun _ _ _ => rfl
theorem de_bl {b j} : DE X ct Wx (.Constant (.bool b) j pos) (dC (.bl b)) := de_con pe_bl fun _ _ _ => rfl
theorem de_non {j} : DE X ct Wx (.Constant .none j pos) (dC .non) := de_con pe_non fun _ _ _ => rfl
theorem de_str {x j} : DE X ct Wx (.Constant (.str x) j pos) (dC (.str x)) := de_con pe_str fun _ _ _ => rfl

/-! ### two-place operations -/
def dBin (f : W → W → Mem → Res W) (da db : DEn) : DEn := fun ρ M => (da ρ M).bind fun x M1 => (db ρ M1).bind fun y M2 => f x y M2
def ValR (K : PySem.W.Frag) (ct : CT) (Wx : WX) (r : R2) (f : W → W → Mem → Res W) : Prop :=
  ∀ S φ H ρ M σ x v y u Q, SR K ct S φ H ρ M σ → RV K ct S φ H x v → RV K ct S φ H y u → PostG K ct Wx (RelW K ct) S φ H ρ σ (f x y M) Q → r v u H Q
theorem tOp_of {K : PySem.W.Frag} {r : R2} {f : W → W → Mem → Res W} {da db : DEn} (hv : ValR K ct Wx r f) : ∀ σ H Q, rdE K ct Wx (dBin f da db) σ H Q → tOp r (rdE K ct Wx da) (rdE K ct Wx db) σ H Q := by
  intro σ H Q ⟨S, φ, ρ, M, sr, q⟩
  refine ⟨S, φ, ρ, M, sr, PostG.bind q fun φ1 H1 M1 x v l1 sr1 r1 q1 => ⟨S, φ1, ρ, M1, sr1, PostG.bind q1 fun φ2 H2 M2 y u l2 sr2 r2 q2 => ?_⟩⟩
  exact hv S φ2 H2 ρ M2 σ x v y u Q sr2 (RV.mono l2 _ _ r1) r2 q2
variable {a b : Expr} {da db : DEn}
theorem de_bin {op : Operator} {r : R2} {f : W → W → Mem → Res W} (ho : OpR X (binaryOp op) r) (hv : ValR X.K ct Wx r f) (ha : DE X ct Wx a da) (hb : DE X ct Wx b db) : DE X ct Wx (.BinOp a op b pos) (dBin f da db) :=
  ⟨PE.imp (pe_op ho ha.pe hb.pe) (tOp_of hv)⟩
theorem de_cmp {op : CmpOp} {r : R2} {f : W → W → Mem → Res W} (ho : OpR X (compareOp op) r) (hv : ValR X.K ct Wx r f) (ha : DE X ct Wx a da) (hb : DE X ct Wx b db) (hm : behindInMarks op b = false) : DE X ct Wx (.Compare a [op] [b] pos) (dBin f da db) :=
  ⟨PE.imp (pe_cmpR ho ha.pe hb.pe hm) (tOp_of hv)⟩
/-- a value that is a truth, as a test -/
def toB (d : DEn) : DTn := fun ρ M => (d ρ M).bind fun w M1 => match w with
  | .bl b => .ok b M1
  | _ => .bad
theorem rdB {K : PySem.W.Frag} {d : DEn} {σ : L2.St} {H : Hp} {Q : Bool → Hp → Prop} (h : rdT K ct Wx (toB d) σ H Q) : rdE K ct Wx d σ H fun x H1 => ∃ c, x = .bl c ∧ Q c H1 := by
  obtain ⟨S, φ, ρ, M, sr, q⟩ := h
  refine ⟨S, φ, ρ, M, sr, PostG.bind q fun φ1 H1 M1 x v l1 sr1 r1 q1 => ?_⟩
  split at q1
  · rename_i b
    exact ⟨b, r1, PostG.ok (Wx := Wx) (Rel := RelB) sr1 rfl q1⟩
  · exact q1.elim
theorem dt_cmp {op : CmpOp} {r : R2} {f : W → W → Mem → Res W} (ho : OpR X (compareOp op) r) (hv : ValR X.K ct Wx r f) (ha : DE X ct Wx a da) (hb : DE X ct Wx b db) (hm : behindInMarks op b = false) : DT X ct Wx (.Compare a [op] [b] pos) (toB (dBin f da db)) :=
  ⟨PT.imp (pt_cmpR ho ha.pe hb.pe hm) fun σ H Q q => tOp_of hv σ H _ (rdB q)⟩
theorem dt_val {e : Expr} {d : DEn} (h : DE X ct Wx e d) (he : ∀ whole, isTrue e X.env whole = (do let v ← whole; standAt e.pos; holding [v] (truthy v)) := by intro _; rfl) : DT X ct Wx e (toB d) :=
  ⟨PT.imp (pt_val h.pe he) fun σ H Q q => rdB q⟩
def dNot (d : DTn) : DTn := fun ρ M => (d ρ M).bind fun b M1 => .ok (!b) M1
theorem dt_not {e : Expr} {d : DTn} (h : DT X ct Wx e d) : DT X ct Wx (.UnaryOp .Not e pos) (dNot d) := by
  refine ⟨PT.imp (pt_not h.pt) fun σ H Q ⟨S, φ, ρ, M, sr, q⟩ => ⟨S, φ, ρ, M, sr, PostG.bind q fun φ1 H1 M1 x v l1 sr1 r1 q1 => ?_⟩⟩
  cases r1
  exact PostG.ok (Wx := Wx) (Rel := RelB) sr1 rfl q1
def dAnd (d e : DTn) : DTn := fun ρ M => (d ρ M).bind fun b M1 => if b = true then e ρ M1 else .ok false M1
def dOr (d e : DTn) : DTn := fun ρ M => (d ρ M).bind fun b M1 => if b = true then .ok true M1 else e ρ M1
variable {rest : List Expr} {ta tb : DTn}
theorem dt_bool {e : Expr} {d : DTn} (h : DW X ct Wx e d) : DT X ct Wx e d := ⟨h.pw.pt⟩
theorem dw_and1 (ha : DT X ct Wx a ta) : DW X ct Wx (.BoolOp .And [a] pos) ta := ⟨pw_and1 ha.pt⟩
theorem dw_or1 (ha : DT X ct Wx a ta) : DW X ct Wx (.BoolOp .Or [a] pos) ta := ⟨pw_or1 ha.pt⟩
theorem dw_and (ha : DT X ct Wx a ta) (hb : DW X ct Wx (.BoolOp .And (b :: rest) pos) tb) : DW X ct Wx (.BoolOp .And (a :: b :: rest) pos) (dAnd ta tb) := by
  refine ⟨PW.imp (pw_and ha.pt hb.pw) fun σ H Q ⟨S, φ, ρ, M, sr, q⟩ => ⟨S, φ, ρ, M, sr, PostG.bind q fun φ1 H1 M1 x v l1 sr1 r1 q1 => ?_⟩⟩
  cases r1
  cases x with
  | true => exact ⟨S, φ1, ρ, M1, sr1, q1⟩
  | false => exact PostG.ok (Wx := Wx) (Rel := RelB) sr1 rfl q1
theorem dw_or (ha : DT X ct Wx a ta) (hb : DW X ct Wx (.BoolOp .Or (b :: rest) pos) tb) : DW X ct Wx (.BoolOp .Or (a :: b :: rest) pos) (dOr ta tb) := by
  refine ⟨PW.imp (pw_or ha.pt hb.pw) fun σ H Q ⟨S, φ, ρ, M, sr, q⟩ => ⟨S, φ, ρ, M, sr, PostG.bind q fun φ1 H1 M1 x v l1 sr1 r1 q1 => ?_⟩⟩
  cases r1
  cases x with
  | true => exact PostG.ok (Wx := Wx) (Rel := RelB) sr1 rfl q1
  | false => exact ⟨S, φ1, ρ, M1, sr1, q1⟩
/-- as values: all but the last are truths -/
def dAndV (d : DTn) (e : DEn) : DEn := fun ρ M => (d ρ M).bind fun b M1 => if b = true then e ρ M1 else .ok (.bl false) M1
def dOrV (d : DTn) (e : DEn) : DEn := fun ρ M => (d ρ M).bind fun b M1 => if b = true then .ok (.bl true) M1 else e ρ M1
theorem de_one {op} {d : DEn} (h : DE X ct Wx a d) : DE X ct Wx (.BoolOp op [a] pos) d := ⟨pe_one h.pe⟩
theorem rdBv {K : PySem.W.Frag} {k : Bool → Mem → Res W} {R : Bool → Hp → Prop} {S : Addr → Prop} {φ : List Addr} {H : Hp} {ρ : Rho} {M : Mem} {σ : L2.St} {Q : VK} (q : PostG K ct Wx (RelW K ct) S φ H ρ σ ((toB da ρ M).bind k) Q)
    (hR : ∀ φ1 H1 M1 c, Le φ H φ1 H1 → SR K ct S φ1 H1 ρ M1 σ → PostG K ct Wx (RelW K ct) S φ1 H1 ρ σ (k c M1) Q → R c H1) : PostG K ct Wx (RelW K ct) S φ H ρ σ (da ρ M) fun x H1 => ∃ c, x = .bl c ∧ R c H1 := by
  unfold toB at q
  cases e : da ρ M with
  | ok w M1 =>
    rw [e] at q
    cases w with
    | bl c => exact fun φ1 H1 b l sr rl => ⟨c, rl, hR φ1 H1 M1 c l sr (PostG.le l (show PostG K ct Wx (RelW K ct) S φ H ρ σ (k c M1) Q from q))⟩
    | _ => exact (show False from q).elim
  | exc c e' M1 =>
    rw [e] at q
    exact q
  | bad =>
    rw [e] at q
    exact q
theorem de_and {d : DEn} (ha : DE X ct Wx a da) (hb : DE X ct Wx (.BoolOp .And (b :: rest) pos) d) : DE X ct Wx (.BoolOp .And (a :: b :: rest) pos) (dAndV (toB da) d) := by
  refine ⟨PE.imp (pe_and ha.pe hb.pe) fun σ H Q ⟨S, φ, ρ, M, sr, q⟩ => ⟨S, φ, ρ, M, sr, rdBv q fun φ1 H1 M1 c l1 sr1 q1 => ?_⟩⟩
  cases c with
  | true => exact ⟨S, φ1, ρ, M1, sr1, q1⟩
  | false => exact PostG.ok (Wx := Wx) (Rel := RelW X.K ct) (a := W.bl false) sr1 rfl q1
theorem de_or {d : DEn} (ha : DE X ct Wx a da) (hb : DE X ct Wx (.BoolOp .Or (b :: rest) pos) d) : DE X ct Wx (.BoolOp .Or (a :: b :: rest) pos) (dOrV (toB da) d) := by
  refine ⟨PE.imp (pe_or ha.pe hb.pe) fun σ H Q ⟨S, φ, ρ, M, sr, q⟩ => ⟨S, φ, ρ, M, sr, rdBv q fun φ1 H1 M1 c l1 sr1 q1 => ?_⟩⟩
  cases c with
  | true => exact PostG.ok (Wx := Wx) (Rel := RelW X.K ct) (a := W.bl true) sr1 rfl q1
  | false => exact ⟨S, φ1, ρ, M1, sr1, q1⟩
def dNotV (d : DTn) : DEn := fun ρ M => (d ρ M).bind fun b M1 => .ok (.bl (!b)) M1
theorem de_not (ha : DE X ct Wx a da) : DE X ct Wx (.UnaryOp .Not a pos) (dNotV (toB da)) := by
  refine ⟨PE.imp (pe_not ha.pe) fun σ H Q ⟨S, φ, ρ, M, sr, q⟩ => ⟨S, φ, ρ, M, sr, rdBv q fun φ1 H1 M1 c l1 sr1 q1 => ?_⟩⟩
  exact PostG.ok (Wx := Wx) (Rel := RelW X.K ct) (a := W.bl (!c)) sr1 rfl q1
def dIf {α : Type} (t : DTn) (x y : Rho → Mem → Res α) : Rho → Mem → Res α := fun ρ M => (t ρ M).bind fun b M1 => if b = true then x ρ M1 else y ρ M1
theorem de_if {c : Expr} {t : DTn} (hc : DT X ct Wx c t) (ha : DE X ct Wx a da) (hb : DE X ct Wx b db) : DE X ct Wx (.IfExp c a b pos) (dIf t da db) := by
  refine ⟨PE.imp (pe_ifExp hc.pt ha.pe hb.pe) fun σ H Q ⟨S, φ, ρ, M, sr, q⟩ => ⟨S, φ, ρ, M, sr, PostG.bind q fun φ1 H1 M1 x v l1 sr1 r1 q1 => ?_⟩⟩
  cases r1
  cases x with
  | true => exact ⟨S, φ1, ρ, M1, sr1, q1⟩
  | false => exact ⟨S, φ1, ρ, M1, sr1, q1⟩

/-! ### chains a < b < c -/
def dChain (f g : W → W → Mem → Res W) (da db dc : DEn) : DEn := fun ρ M => (da ρ M).bind fun x M1 => (db ρ M1).bind fun y M2 => (f x y M2).bind fun z M3 => match z with
  | .bl true => (dc ρ M3).bind fun w M4 => g y w M4
  | .bl false => .ok (.bl false) M3
  | _ => .bad
theorem tChain_of {K : PySem.W.Frag} {r r' : R2} {f g : W → W → Mem → Res W} {dc : DEn} (hv : ValR K ct Wx r f) (hv' : ValR K ct Wx r' g) :
    ∀ σ H Q, rdE K ct Wx (dChain f g da db dc) σ H Q → tChain r r' (rdE K ct Wx da) (rdE K ct Wx db) (rdE K ct Wx dc) σ H Q := by
  intro σ H Q ⟨S, φ, ρ, M, sr, q⟩
  refine ⟨S, φ, ρ, M, sr, PostG.bind q fun φ1 H1 M1 x v l1 sr1 r1 q1 => ⟨S, φ1, ρ, M1, sr1, PostG.bind q1 fun φ2 H2 M2 y u l2 sr2 r2 q2 => ?_⟩⟩
  refine hv S φ2 H2 ρ M2 σ x v y u _ sr2 (RV.mono l2 _ _ r1) r2 (PostG.bind q2 fun φ3 H3 M3 z c l3 sr3 r3 q3 => ?_)
  cases z with
  | bl k =>
    refine ⟨k, r3, ?_⟩
    cases k with
    | true => exact ⟨S, φ3, ρ, M3, sr3, PostG.bind q3 fun φ4 H4 M4 w t l4 sr4 r4 q4 => hv' S φ4 H4 ρ M4 σ y u w t Q sr4 (RV.mono (l3.trans l4) _ _ r2) r4 q4⟩
    | false => exact PostG.ok (Wx := Wx) (Rel := RelW K ct) (a := W.bl false) sr3 rfl q3
  | _ => exact (show False from q3).elim
theorem de_chain {c : Expr} {op op' : CmpOp} {r r' : R2} {f g : W → W → Mem → Res W} {dc : DEn} (ho : OpR X (compareOp op) r) (hv : ValR X.K ct Wx r f) (ho' : OpR X (compareOp op') r') (hv' : ValR X.K ct Wx r' g)
    (ha : DE X ct Wx a da) (hb : DE X ct Wx b db) (hc : DE X ct Wx c dc) (hm : lastMarks [op, op'] [b, c] = false := by with_unfolding_all rfl) : DE X ct Wx (.Compare a [op, op'] [b, c] pos) (dChain f g da db dc) :=
  ⟨PE.imp (pe_chain ho ho' ha.pe hb.pe hc.pe hm) (tChain_of hv hv')⟩
theorem dt_chain {c : Expr} {op op' : CmpOp} {r r' : R2} {f g : W → W → Mem → Res W} {dc : DEn} (ho : OpR X (compareOp op) r) (hv : ValR X.K ct Wx r f) (ho' : OpR X (compareOp op') r') (hv' : ValR X.K ct Wx r' g)
    (ha : DE X ct Wx a da) (hb : DE X ct Wx b db) (hc : DE X ct Wx c dc) (hm : lastMarks [op, op'] [b, c] = false := by with_unfolding_all rfl) : DT X ct Wx (.Compare a [op, op'] [b, c] pos) (toB (dChain f g da db dc)) :=
  ⟨PT.imp (pt_chain ho ho' ha.pe hb.pe hc.pe hm) fun σ H Q q => tChain_of hv hv' σ H _ (rdB q)⟩

/-! ### arguments, displays -/
def dNil : DAn := fun _ M => .ok [] M
def dCons (d : DEn) (r : DAn) : DAn := fun ρ M => (d ρ M).bind fun x M1 => (r ρ M1).bind fun xs M2 => .ok (x :: xs) M2
theorem da_nil : DA X ct Wx [] dNil := ⟨PA.imp pa_nil fun σ H Q ⟨S, φ, ρ, M, sr, q⟩ => PostG.ok (Wx := Wx) (Rel := RelWs X.K ct) (a := []) sr rfl q⟩
theorem da_cons {e : Expr} {es : List Expr} {d : DEn} {r : DAn} (ha : DE X ct Wx e d) (hr : DA X ct Wx es r) (hs : starEach (e :: es) X.env = (false, eval e X.env) :: starEach es X.env := by rfl) : DA X ct Wx (e :: es) (dCons d r) := by
  refine ⟨PA.imp (pa_cons ha.pe hr.pa hs) fun σ H Q ⟨S, φ, ρ, M, sr, q⟩ => ⟨S, φ, ρ, M, sr, PostG.bind q fun φ1 H1 M1 x v l1 sr1 r1 q1 => ⟨S, φ1, ρ, M1, sr1, PostG.bind q1 fun φ2 H2 M2 y u l2 sr2 r2 q2 => ?_⟩⟩⟩
  exact PostG.ok (Wx := Wx) (Rel := RelWs X.K ct) (a := x :: y) sr2 (RVs.cons (RV.mono l2 _ _ r1) r2) q2
def dTup (d : DAn) : DEn := fun ρ M => (d ρ M).bind fun ws M1 => if ws.length ≤ sizeLine then .ok (.tup ws) M1 else .bad
/-- a new tuple -/
theorem tup_new {K : PySem.W.Frag} {S : Addr → Prop} {φ : List Addr} {H : Hp} {ρ : Rho} {M : Mem} {σ : L2.St} {Q : VK} {ws : List W} {vs : List V} {p : Addr} (sr : SR K ct S φ H ρ M σ) (r : RVs K ct S φ H ws vs)
    (q : PostG K ct Wx (RelW K ct) S φ H ρ σ (.ok (.tup ws) M) Q) (hp : H p = none) : Q (.ref p) (upd H p (.tup vs)) := by
  obtain ⟨f1, f2⟩ := sr.mem.fresh hp
  exact q φ _ _ (sr.le hp) (sr.laid hp) ⟨p, vs, rfl, .inl ⟨.inl upd_same, f2, f1⟩, RVs.mono (sr.le hp) _ _ r⟩
theorem lst_new {K : PySem.W.Frag} {S : Addr → Prop} {φ : List Addr} {H : Hp} {ρ : Rho} {M : Mem} {σ : L2.St} {Q : VK} {ws : List W} {vs : List V} {p : Addr} (sr : SR K ct S φ H ρ M σ) (r : RVs K ct S φ H ws vs)
    (q : PostG K ct Wx (RelW K ct) S φ H ρ σ (.ok (.lst ws) M) Q) (hp : H p = none) : Q (.ref p) (upd H p (.lst vs)) := by
  obtain ⟨f1, f2⟩ := sr.mem.fresh hp
  exact q φ _ _ (sr.le hp) (sr.laid hp) ⟨p, vs, rfl, ⟨upd_same, f2, f1⟩, RVs.mono (sr.le hp) _ _ r⟩
theorem cell_new {K : PySem.W.Frag} {S : Addr → Prop} {φ : List Addr} {H : Hp} {ρ : Rho} {M : Mem} {σ : L2.St} {Q : VK} {ws : List W} {vs : List V} {p : Addr} (sr : SR K ct S φ H ρ M σ) (r : RVs K ct S φ H ws vs)
    (q : PostG K ct Wx (RelW K ct) S φ H ρ σ (.ok (.loc M.length) (M ++ [.lst ws])) Q) (hp : H p = none) : Q (.ref p) (upd H p (.lst vs)) := by
  refine q (φ ++ [p]) _ _ (Le.cell hp) (sr.newCell hp ⟨vs, upd_same, RVs.mono (Le.cell hp) _ _ r⟩) ⟨p, rfl, ?_⟩
  rw [← sr.mem.len, List.getElem?_append_right (Nat.le_refl _)]
  simp
theorem de_tup {es : List Expr} {x1} {d : DAn} (h : DA X ct Wx es d) : DE X ct Wx (.Tuple es x1 pos) (dTup d) := by
  refine ⟨PE.imp (pe_tup h.pa) fun σ H Q ⟨S, φ, ρ, M, sr, q⟩ => ⟨S, φ, ρ, M, sr, PostG.bind q fun φ1 H1 M1 x v l1 sr1 r1 q1 => ?_⟩⟩
  split at q1
  · rename_i hz
    exact ⟨by rw [← RVs.length r1]; exact hz, fun p hp => tup_new sr1 r1 q1 hp⟩
  · exact q1.elim
/-- a new list, as a value that is never changed; as a cell -/
def dImm (d : DAn) : DEn := fun ρ M => (d ρ M).bind fun ws M1 => .ok (.lst ws) M1
def dMut (d : DAn) : DEn := fun ρ M => (d ρ M).bind fun ws M1 => .ok (.loc M1.length) (M1 ++ [.lst ws])
theorem de_imm {e : Expr} {d : DAn} (h : DL X ct Wx e d) : DE X ct Wx e (dImm d) :=
  ⟨PE.imp h.pl fun σ H Q ⟨S, φ, ρ, M, sr, q⟩ => ⟨S, φ, ρ, M, sr, PostG.bind q fun φ1 H1 M1 x v l1 sr1 r1 q1 => fun p hp => lst_new sr1 r1 q1 hp⟩⟩
theorem de_mut {e : Expr} {d : DAn} (h : DL X ct Wx e d) : DE X ct Wx e (dMut d) :=
  ⟨PE.imp h.pl fun σ H Q ⟨S, φ, ρ, M, sr, q⟩ => ⟨S, φ, ρ, M, sr, PostG.bind q fun φ1 H1 M1 x v l1 sr1 r1 q1 => fun p hp => cell_new sr1 r1 q1 hp⟩⟩
def dLst (d : DAn) : DAn := fun ρ M => (d ρ M).bind fun ws M1 => if ws.length ≤ sizeLine then .ok ws M1 else .bad
theorem dl_lst {es : List Expr} {d : DAn} (h : DA X ct Wx es d) : DL X ct Wx (.List es pos) (dLst d) := by
  refine ⟨PE.imp (pe_lst h.pa) fun σ H Q ⟨S, φ, ρ, M, sr, q⟩ => ⟨S, φ, ρ, M, sr, PostG.bind q fun φ1 H1 M1 x v l1 sr1 r1 q1 => ?_⟩⟩
  split at q1
  · rename_i hz
    exact ⟨by rw [← RVs.length r1]; exact hz, fun p hp => q1 φ1 H1 v (Le.refl _ _) sr1 r1 p hp⟩
  · exact q1.elim
end
end LP

namespace LP
open PySem PySem.Spec L2

/-! ### what is read of a value -/
def cellL : Option Cell → Option (List W)
  | some (.lst ws) => some ws
  | _ => none
/-- a list: a value that isn't changed, or a cell -/
def asL (M : Mem) : W → Option (List W)
  | .lst ws => some ws
  | .loc n => cellL M[n]?
  | _ => none
/-- a list that may be the script -/
def asQ (M : Mem) : W → Option (List W)
  | .fro ws => some ws
  | .lst ws => some ws
  | .loc n => cellL M[n]?
  | _ => none
def asT : W → Option (List W)
  | .tup ws => some ws
  | _ => none
section
variable {K : PySem.W.Frag} {ct : CT} {S : Addr → Prop} {φ : List Addr} {H : Hp} {ρ : Rho} {M : Mem} {σ : L2.St} {w : W} {v : V} {ws : List W}
theorem cellL_ok {c : Option Cell} (e : cellL c = some ws) : c = some (.lst ws) := by
  cases c with
  | none => cases e
  | some c =>
    cases c with
    | lst us => cases e; rfl
    | _ => cases e
theorem asL_ok (r : RM K ct S φ H M) (h : RV K ct S φ H w v) (e : asL M w = some ws) : ∃ a vs, v = .ref a ∧ H a = some (.lst vs) ∧ RVs K ct S φ H ws vs := by
  cases w with
  | lst us =>
    cases e
    obtain ⟨a, vs, e1, h1, h2⟩ := h
    exact ⟨a, vs, e1, h1.1, h2⟩
  | loc n =>
    obtain ⟨a, e1, h1⟩ := h
    obtain ⟨vs, h2, h3⟩ := r.cell n _ a (cellL_ok (show cellL M[n]? = some ws from e)) h1
    exact ⟨a, vs, e1, h2, h3⟩
  | non => cases e
  | bl b => cases e
  | int b => cases e
  | str b => cases e
  | tup b => cases e
  | fro b => cases e
  | obj b c d => cases e
theorem asQ_ok (r : RM K ct S φ H M) (h : RV K ct S φ H w v) (e : asQ M w = some ws) : ∃ a vs, v = .ref a ∧ SqL K H a vs ∧ RVs K ct S φ H ws vs := by
  cases w with
  | fro us =>
    cases e
    obtain ⟨a, vs, e1, h1, h2⟩ := h
    refine ⟨a, vs, e1, ?_, h2⟩
    rcases h1 with h1 | h1
    · exact .inl h1.1
    · exact .inr h1
  | lst us =>
    obtain ⟨a, vs, e1, h1, h2⟩ := asL_ok r h (w := .lst us) e
    exact ⟨a, vs, e1, SqL.of h1, h2⟩
  | loc n =>
    obtain ⟨a, vs, e1, h1, h2⟩ := asL_ok r h (w := .loc n) e
    exact ⟨a, vs, e1, SqL.of h1, h2⟩
  | non => cases e
  | bl b => cases e
  | int b => cases e
  | str b => cases e
  | tup b => cases e
  | obj b c d => cases e
theorem asT_ok (h : RV K ct S φ H w v) (e : asT w = some ws) : ∃ a vs, v = .ref a ∧ SqT K H a vs ∧ RVs K ct S φ H ws vs := by
  cases w with
  | tup us =>
    cases e
    obtain ⟨a, vs, e1, h1, h2⟩ := h
    refine ⟨a, vs, e1, ?_, h2⟩
    rcases h1 with h1 | h1
    · exact .inl h1.1
    · exact .inr h1
  | non => cases e
  | bl b => cases e
  | int b => cases e
  | str b => cases e
  | lst b => cases e
  | fro b => cases e
  | loc b => cases e
  | obj b c d => cases e
end

/-- when an operation asks for a condition -/
def Res.when {α : Type} (c : Prop) [Decidable c] (r : Res α) : Res α := if c then r else .bad
section
variable {K : PySem.W.Frag} {ct : CT} {Wx : WX} {α β : Type} {Rel : RelT α β} {S : Addr → Prop} {φ : List Addr} {H : Hp} {ρ : Rho} {M : Mem} {σ : L2.St} {Q : β → Hp → Prop}
theorem PostG.when {c : Prop} [Decidable c] {r : Res α} (h : PostG K ct Wx Rel S φ H ρ σ (Res.when c r) Q) : c ∧ PostG K ct Wx Rel S φ H ρ σ r Q := by
  unfold Res.when at h
  split at h
  · exact ⟨by assumption, h⟩
  · exact h.elim
end

/-! ### + -/
def vAdd : W → W → Mem → Res W
  | .int i, .int j, M => .ok (.int (i + j)) M
  | .str x, .str y, M => .when (x.length + y.length ≤ sizeLine) (.ok (.str (x ++ y)) M)
  | .tup xs, .tup ys, M => .when (xs.length + ys.length ≤ sizeLine) (.ok (.tup (xs ++ ys)) M)
  | x, y, M => match asL M x, asL M y with
    | some xs, some ys => .when (xs.length + ys.length ≤ sizeLine) (.ok (.lst (xs ++ ys)) M)
    | _, _ => .bad
def rAdd4 (K : PySem.W.Frag) : R2 := fun x y H Q => rI0 (fun i j => .int (i + j)) x y H Q ∨ (∃ i j, x = .str i ∧ y = .str j ∧ i.length + j.length ≤ sizeLine ∧ Q (.str (i ++ j)) H) ∨ rCatA K x y H Q ∨ rCat x y H Q
theorem op_add4 {X : Cx} : OpR X (binaryOp .Add) (rAdd4 X.K) := op_add.or (op_add_str.or (op_catA.or op_cat))
theorem valAdd {K : PySem.W.Frag} {ct : CT} {Wx : WX} : ValR K ct Wx (rAdd4 K) vAdd := by
  intro S φ H ρ M σ x v y u Q sr rx ry q
  unfold vAdd at q
  split at q
  · cases rx; cases ry
    exact .inl ⟨_, _, rfl, rfl, PostG.ok (Wx := Wx) (Rel := RelW K ct) (a := W.int _) sr rfl q⟩
  · cases rx; cases ry
    obtain ⟨hz, q⟩ := PostG.when q
    exact .inr (.inl ⟨_, _, rfl, rfl, hz, PostG.ok (Wx := Wx) (Rel := RelW K ct) (a := W.str _) sr rfl q⟩)
  · rename_i xs ys
    obtain ⟨hz, q⟩ := PostG.when q
    refine .inr (.inr (.inl ?_))
    obtain ⟨a, vs, e1, h1, r1⟩ := asT_ok (w := .tup xs) rx rfl
    obtain ⟨b, us, e2, h2, r2⟩ := asT_ok (w := .tup ys) ry rfl
    subst e1 e2
    have l1 := RVs.length r1
    have l2 := RVs.length r2
    refine ⟨a, b, vs, us, rfl, rfl, h1, h2, by rw [← l1, ← l2]; exact hz, fun e => ?_, fun _ e => ?_, fun _ _ p hp => tup_new sr (RVs.append r1 r2) q hp⟩
    · subst e
      have : xs = [] := List.length_eq_zero_iff.mp (by rw [l1]; rfl)
      subst this
      exact PostG.ok (Wx := Wx) (Rel := RelW K ct) sr ry q
    · subst e
      have : ys = [] := List.length_eq_zero_iff.mp (by rw [l2]; rfl)
      subst this
      rw [List.append_nil] at q
      exact PostG.ok (Wx := Wx) (Rel := RelW K ct) sr rx q
  · rename_i q
    split at q
    · rename_i xs ys ex ey
      obtain ⟨hz, q⟩ := PostG.when q
      obtain ⟨a, vs, e1, h1, r1⟩ := asL_ok sr.mem rx ex
      obtain ⟨b, us, e2, h2, r2⟩ := asL_ok sr.mem ry ey
      subst e1 e2
      exact .inr (.inr (.inr ⟨a, b, vs, us, rfl, rfl, h1, h2, by rw [← RVs.length r1, ← RVs.length r2]; exact hz, fun p hp => lst_new sr (RVs.append r1 r2) q hp⟩))
    · exact q.elim
section
variable {X : Cx} {ct : CT} {Wx : WX} {pos : Pos} {a b : Expr} {da db : DEn}
theorem de_add (ha : DE X ct Wx a da) (hb : DE X ct Wx b db) : DE X ct Wx (.BinOp a .Add b pos) (dBin vAdd da db) := de_bin op_add4 valAdd ha hb
end
/-- ints in, an int out, under a condition -/
def vI2 (c : Int → Int → Prop) [∀ i j, Decidable (c i j)] (f : Int → Int → Int) : W → W → Mem → Res W
  | .int i, .int j, M => .when (c i j) (.ok (.int (f i j)) M)
  | _, _, _ => .bad
theorem valI2 {K : PySem.W.Frag} {ct : CT} {Wx : WX} {c : Int → Int → Prop} [∀ i j, Decidable (c i j)] {f : Int → Int → Int} {C : Int → Int → Prop} (hC : ∀ i j, c i j → C i j) : ValR K ct Wx (rI C fun i j => .int (f i j)) (vI2 c f) := by
  intro S φ H ρ M σ x v y u Q sr rx ry q
  unfold vI2 at q
  split at q
  · cases rx; cases ry
    obtain ⟨hz, q⟩ := PostG.when q
    exact ⟨_, _, rfl, rfl, hC _ _ hz, PostG.ok (Wx := Wx) (Rel := RelW K ct) (a := W.int _) sr rfl q⟩
  · exact q.elim
def vSub : W → W → Mem → Res W
  | .int i, .int j, M => .ok (.int (i - j)) M
  | _, _, _ => .bad
theorem valSub {K : PySem.W.Frag} {ct : CT} {Wx : WX} : ValR K ct Wx (rI0 fun i j => .int (i - j)) vSub := by
  intro S φ H ρ M σ x v y u Q sr rx ry q
  unfold vSub at q
  split at q
  · cases rx; cases ry
    exact ⟨_, _, rfl, rfl, PostG.ok (Wx := Wx) (Rel := RelW K ct) (a := W.int _) sr rfl q⟩
  · exact q.elim
def cMul (i j : Int) : Prop := (-18446744073709551616 < i ∧ i < 18446744073709551616) ∨ (-18446744073709551616 < j ∧ j < 18446744073709551616)
instance (i j : Int) : Decidable (cMul i j) := by unfold cMul; infer_instance
theorem cMul_ok {i j : Int} (h : cMul i j) : CMul i j := h
def cDiv (_ j : Int) : Prop := 0 < j ∧ j < 1073741824
instance (i j : Int) : Decidable (cDiv i j) := by unfold cDiv; infer_instance
def cMod (_ j : Int) : Prop := 0 < j
instance (i j : Int) : Decidable (cMod i j) := by unfold cMod; infer_instance
def cPow (i j : Int) : Prop := 0 ≤ j ∧ j ≤ 1000000 ∧ i.natAbs < 18446744073709551616
instance (i j : Int) : Decidable (cPow i j) := by unfold cPow; infer_instance
def cShr (_ j : Int) : Prop := 0 ≤ j
instance (i j : Int) : Decidable (cShr i j) := by unfold cShr; infer_instance
def cAny (_ _ : Int) : Prop := True
instance (i j : Int) : Decidable (cAny i j) := by unfold cAny; infer_instance
abbrev vMul := vI2 cMul fun i j => i * j
abbrev vDiv := vI2 cDiv fun i j => i / j
abbrev vMod := vI2 cMod fun i j => i % j
abbrev vPow := vI2 cPow fun i j => i ^ j.toNat
abbrev vShr := vI2 cShr fun i j => i / 2 ^ j.toNat
def vAnd : W → W → Mem → Res W
  | .int i, .int j, M => .ok (.int (Builtin.bitAnd i j)) M
  | _, _, _ => .bad
theorem valAnd {K : PySem.W.Frag} {ct : CT} {Wx : WX} : ValR K ct Wx (rI0 fun i j => .int (Builtin.bitAnd i j)) vAnd := by
  intro S φ H ρ M σ x v y u Q sr rx ry q
  unfold vAnd at q
  split at q
  · cases rx; cases ry
    exact ⟨_, _, rfl, rfl, PostG.ok (Wx := Wx) (Rel := RelW K ct) (a := W.int _) sr rfl q⟩
  · exact q.elim
section
variable {X : Cx} {ct : CT} {Wx : WX} {pos : Pos} {a b : Expr} {da db : DEn}
theorem de_sub (ha : DE X ct Wx a da) (hb : DE X ct Wx b db) : DE X ct Wx (.BinOp a .Sub b pos) (dBin vSub da db) := de_bin op_sub valSub ha hb
theorem de_mul (ha : DE X ct Wx a da) (hb : DE X ct Wx b db) : DE X ct Wx (.BinOp a .Mult b pos) (dBin vMul da db) := de_bin op_mul (valI2 fun _ _ h => cMul_ok h) ha hb
theorem de_div (ha : DE X ct Wx a da) (hb : DE X ct Wx b db) : DE X ct Wx (.BinOp a .FloorDiv b pos) (dBin vDiv da db) := de_bin op_fdiv (valI2 fun _ _ h => h) ha hb
theorem de_mod (ha : DE X ct Wx a da) (hb : DE X ct Wx b db) : DE X ct Wx (.BinOp a .Mod b pos) (dBin vMod da db) := de_bin op_mod (valI2 fun _ _ h => h) ha hb
theorem de_pow (ha : DE X ct Wx a da) (hb : DE X ct Wx b db) : DE X ct Wx (.BinOp a .Pow b pos) (dBin vPow da db) := de_bin op_pow (valI2 fun _ _ h => h) ha hb
theorem de_shr (ha : DE X ct Wx a da) (hb : DE X ct Wx b db) : DE X ct Wx (.BinOp a .RShift b pos) (dBin vShr da db) := de_bin op_shr (valI2 fun _ _ h => h) ha hb
theorem de_and2 (ha : DE X ct Wx a da) (hb : DE X ct Wx b db) : DE X ct Wx (.BinOp a .BitAnd b pos) (dBin vAnd da db) := de_bin op_and valAnd ha hb
def dNeg (d : DEn) : DEn := fun ρ M => (d ρ M).bind fun w M1 => match w with
  | .int i => .ok (.int (-i)) M1
  | _ => .bad
theorem de_neg (ha : DE X ct Wx a da) : DE X ct Wx (.UnaryOp .USub a pos) (dNeg da) := by
  refine ⟨PE.imp (pe_un un_neg ha.pe) fun σ H Q ⟨S, φ, ρ, M, sr, q⟩ => ⟨S, φ, ρ, M, sr, PostG.bind q fun φ1 H1 M1 x v l1 sr1 r1 q1 => ?_⟩⟩
  split at q1
  · cases r1
    exact ⟨_, rfl, PostG.ok (Wx := Wx) (Rel := RelW X.K ct) (a := W.int _) sr1 rfl q1⟩
  · exact q1.elim
end

/-! ### order of ints, of texts -/
def sLt (x y : Str) : Bool := decide (x.cps.toList < y.cps.toList)
def vCmp (f : Int → Int → Bool) (g : Str → Str → Bool) : W → W → Mem → Res W
  | .int i, .int j, M => .ok (.bl (f i j)) M
  | .str x, .str y, M => .ok (.bl (g x y)) M
  | _, _, _ => .bad
def rCmp2 (f : Int → Int → Bool) (g : Str → Str → Bool) : R2 := fun x y H Q => rI0 (fun i j => .bl (f i j)) x y H Q ∨ ∃ i j, x = .str i ∧ y = .str j ∧ Q (.bl (g i j)) H
theorem valCmp {K : PySem.W.Frag} {ct : CT} {Wx : WX} {f : Int → Int → Bool} {g : Str → Str → Bool} : ValR K ct Wx (rCmp2 f g) (vCmp f g) := by
  intro S φ H ρ M σ x v y u Q sr rx ry q
  unfold vCmp at q
  split at q
  · cases rx; cases ry
    exact .inl ⟨_, _, rfl, rfl, PostG.ok (Wx := Wx) (Rel := RelW K ct) (a := W.bl _) sr rfl q⟩
  · cases rx; cases ry
    exact .inr ⟨_, _, rfl, rfl, PostG.ok (Wx := Wx) (Rel := RelW K ct) (a := W.bl _) sr rfl q⟩
  · exact q.elim
abbrev vLt := vCmp (fun i j => decide (i < j)) sLt
abbrev vLe := vCmp (fun i j => decide (i ≤ j)) fun x y => !sLt y x
abbrev vGt := vCmp (fun i j => decide (j < i)) fun x y => sLt y x
abbrev vGe := vCmp (fun i j => decide (j ≤ i)) fun x y => !sLt x y
section
variable {X : Cx}
theorem op_lt2 : OpR X (compareOp .Lt) (rCmp2 (fun i j => decide (i < j)) sLt) := op_lt.or op_lt_str
theorem op_le2 : OpR X (compareOp .LtE) (rCmp2 (fun i j => decide (i ≤ j)) fun x y => !sLt y x) := op_le.or op_le_str
theorem op_gt2 : OpR X (compareOp .Gt) (rCmp2 (fun i j => decide (j < i)) fun x y => sLt y x) := op_gt.or op_gt_str
theorem op_ge2 : OpR X (compareOp .GtE) (rCmp2 (fun i j => decide (j ≤ i)) fun x y => !sLt x y) := op_ge.or op_ge_str
end

/-! ### == : flat things, data -/
def flatW : W → Bool
  | .non => true
  | .bl _ => true
  | .int _ => true
  | .str _ => true
  | _ => false
mutual
def weq : W → W → Bool
  | .non, .non => true
  | .bl a, .bl b => a == b
  | .bl a, .int j => (if a then 1 else 0) == j
  | .int i, .bl b => i == (if b then 1 else 0)
  | .int i, .int j => i == j
  | .str x, .str y => x == y
  | .tup xs, .tup ys => weqs xs ys
  | .lst xs, .lst ys => weqs xs ys
  | _, _ => false
def weqs : List W → List W → Bool
  | [], [] => true
  | x :: xs, y :: ys => weq x y && weqs xs ys
  | _, _ => false
end
mutual
def toD : W → PyData
  | .non => .none
  | .bl b => .bool b
  | .int i => .int i
  | .str x => .str x
  | .tup xs => .tuple (toDs xs)
  | .lst xs => .list (toDs xs)
  | _ => .none
def toDs : List W → List PyData
  | [] => []
  | x :: xs => toD x :: toDs xs
end
-- plain data
mutual
def dataW : W → Bool
  | .non => true
  | .bl _ => true
  | .int _ => true
  | .str x => x.cps.all (· < 0x110000)
  | .tup xs => dataWs xs
  | .lst xs => dataWs xs
  | _ => false
def dataWs : List W → Bool
  | [] => true
  | x :: xs => dataW x && dataWs xs
end
mutual
def wdep : W → Nat
  | .tup xs => wdeps xs + 1
  | .lst xs => wdeps xs + 1
  | _ => 0
def wdeps : List W → Nat
  | [] => 0
  | x :: xs => max (wdep x) (wdeps xs)
end
mutual
theorem weq_toD : ∀ (x y : W), dataW x = true → dataW y = true → PyData.eqv (toD x) (toD y) = weq x y
  | .non, y, _, hy => by cases y <;> first | (exact absurd (show false = true from hy) Bool.false_ne_true) | (simp [toD, weq, PyData.eqv])
  | .bl b, y, _, hy => by cases y <;> first | (exact absurd (show false = true from hy) Bool.false_ne_true) | (simp [toD, weq, PyData.eqv])
  | .int i, y, _, hy => by cases y <;> first | (exact absurd (show false = true from hy) Bool.false_ne_true) | (simp [toD, weq, PyData.eqv])
  | .str x, y, _, hy => by cases y <;> first | (exact absurd (show false = true from hy) Bool.false_ne_true) | (simp [toD, weq, PyData.eqv])
  | .tup xs, y, hx, hy => by
    cases y with
    | tup ys =>
      simp only [toD, weq, PyData.eqv]
      exact weqs_toD xs ys hx hy
    | _ => first | (exact absurd (show false = true from hy) Bool.false_ne_true) | (simp [toD, weq, PyData.eqv])
  | .lst xs, y, hx, hy => by
    cases y with
    | lst ys =>
      simp only [toD, weq, PyData.eqv]
      exact weqs_toD xs ys hx hy
    | _ => first | (exact absurd (show false = true from hy) Bool.false_ne_true) | (simp [toD, weq, PyData.eqv])
  | .fro _, _, hx, _ => absurd (show false = true from hx) Bool.false_ne_true
  | .obj _ _ _, _, hx, _ => absurd (show false = true from hx) Bool.false_ne_true
  | .loc _, _, hx, _ => absurd (show false = true from hx) Bool.false_ne_true
theorem weqs_toD : ∀ (xs ys : List W), dataWs xs = true → dataWs ys = true → PyData.eqvAll (toDs xs) (toDs ys) = weqs xs ys
  | [], ys, _, _ => by cases ys <;> simp [toDs, weqs, PyData.eqvAll]
  | x :: xs, ys, hx, hy => by
    cases ys with
    | nil => simp [toDs, weqs, PyData.eqvAll]
    | cons y ys =>
      have hx' : (dataW x && dataWs xs) = true := hx
      have hy' : (dataW y && dataWs ys) = true := hy
      rw [Bool.and_eq_true] at hx' hy'
      simp only [toDs, weqs, PyData.eqvAll]
      rw [weq_toD x y hx'.1 hy'.1, weqs_toD xs ys hx'.2 hy'.2]
end
mutual
theorem dep_toD : ∀ (x : W), PyData.depth (toD x) = wdep x
  | .non => rfl
  | .bl b => rfl
  | .int i => rfl
  | .str x => rfl
  | .tup xs => by simp only [toD, wdep, PyData.depth]; rw [deps_toD xs]
  | .lst xs => by simp only [toD, wdep, PyData.depth]; rw [deps_toD xs]
  | .fro _ => rfl
  | .obj _ _ _ => rfl
  | .loc _ => rfl
theorem deps_toD : ∀ (xs : List W), PyData.depthAll (toDs xs) = wdeps xs
  | [] => rfl
  | x :: xs => by simp only [toDs, wdeps, PyData.depthAll]; rw [dep_toD x, deps_toD xs]
end
mutual
theorem lay_toD : ∀ (x : W), dataW x = true → PyData.canLay0 (toD x) = true
  | .non, _ => rfl
  | .bl b, _ => rfl
  | .int i, _ => rfl
  | .str x, h => h
  | .tup xs, h => lays_toD xs h
  | .lst xs, h => lays_toD xs h
  | .fro _, h => absurd (show false = true from h) Bool.false_ne_true
  | .obj _ _ _, h => absurd (show false = true from h) Bool.false_ne_true
  | .loc _, h => absurd (show false = true from h) Bool.false_ne_true
theorem lays_toD : ∀ (xs : List W), dataWs xs = true → PyData.canLayAll0 (toDs xs) = true
  | [], _ => rfl
  | x :: xs, h => by
    have h' : (dataW x && dataWs xs) = true := h
    rw [Bool.and_eq_true] at h'
    show (PyData.canLay0 (toD x) && PyData.canLayAll0 (toDs xs)) = true
    rw [lay_toD x h'.1, lays_toD xs h'.2]
    rfl
end
section
variable {K : PySem.W.Frag} {ct : CT} {S : Addr → Prop} {φ : List Addr} {H : Hp}
mutual
theorem RV.dp : ∀ (w : W) (v : V), dataW w = true → RV K ct S φ H w v → Dp K H v (toD w)
  | .non, _, _, h => by rw [show _ = _ from h]; exact .non
  | .bl b, _, _, h => by rw [show _ = _ from h]; exact .bl b
  | .int i, _, _, h => by rw [show _ = _ from h]; exact .int i
  | .str x, _, _, h => by rw [show _ = _ from h]; exact .str x
  | .tup ws, _, d, ⟨a, vs, e, h, r⟩ => by
    rw [e]
    refine .tup (xs := vs) ?_ (RVs.dp ws vs d r)
    rcases h with h | h
    · exact .inl h.1
    · exact .inr h
  | .lst ws, _, d, ⟨a, vs, e, h, r⟩ => by
    rw [e]
    exact .lst (xs := vs) (SqL.of h.1) (RVs.dp ws vs d r)
  | .fro _, _, h, _ => absurd (show false = true from h) Bool.false_ne_true
  | .obj _ _ _, _, h, _ => absurd (show false = true from h) Bool.false_ne_true
  | .loc _, _, h, _ => absurd (show false = true from h) Bool.false_ne_true
theorem RVs.dp : ∀ (ws : List W) (vs : List V), dataWs ws = true → RVs K ct S φ H ws vs → DpAll K H vs (toDs ws)
  | [], _, _, h => by rw [show _ = _ from h]; exact .nil
  | w :: ws, _, d, ⟨v, r, e, h, q⟩ => by
    have d' : (dataW w && dataWs ws) = true := d
    rw [Bool.and_eq_true] at d'
    rw [e]
    exact .cons (RV.dp w v d'.1 h) (RVs.dp ws r d'.2 q)
end
end
/-- a cell as the list that it holds now -/
def orW (n : Nat) : Option (List W) → W
  | some ws => .lst ws
  | none => .loc n
def look (M : Mem) : W → W
  | .loc n => orW n (cellL M[n]?)
  | w => w
theorem look_ok {K : PySem.W.Frag} {ct : CT} {S : Addr → Prop} {φ : List Addr} {H : Hp} {M : Mem} (r : RM K ct S φ H M) {w : W} {v : V} (h : RV K ct S φ H w v) (d : dataW (look M w) = true) : Dp K H v (toD (look M w)) := by
  cases w with
  | loc n =>
    have e0 : look M (.loc n) = orW n (cellL M[n]?) := rfl
    rw [e0] at d ⊢
    cases e : cellL M[n]? with
    | some ws =>
      rw [e] at d
      obtain ⟨a, vs, e1, h1, h2⟩ := asL_ok r h (w := .loc n) e
      rw [e1]
      exact .lst (xs := vs) (SqL.of h1) (RVs.dp ws vs d h2)
    | none =>
      rw [e] at d
      exact absurd (show false = true from d) Bool.false_ne_true
  | _ => exact RV.dp _ _ d h
def okD (w : W) : Prop := dataW w = true ∧ wdep w ≤ 64
instance (w : W) : Decidable (okD w) := by unfold okD; infer_instance
def vEq (k : Bool → Bool) : W → W → Mem → Res W
  | .int i, .int j, M => .ok (.bl (k (i == j))) M
  | .str x, .str y, M => .ok (.bl (k (x == y))) M
  | x, y, M => .when (okD (look M x)) (.when (okD (look M y)) (.ok (.bl (k (weq (look M x) (look M y)))) M))
def rEqK (K : PySem.W.Frag) (k : Bool → Bool) : R2 := fun x y H Q => (∃ i j : Int, x = .int i ∧ y = .int j ∧ Q (.bl (k (i == j))) H) ∨ (∃ i j : Str, x = .str i ∧ y = .str j ∧ Q (.bl (k (i == j))) H) ∨
  ∃ d e, Dp K H x d ∧ Dp K H y e ∧ SeqAt.shaped d = true ∧ SeqAt.shaped e = true ∧ Q (.bl (k (PyData.eqv d e))) H
theorem op_eqK {X : Cx} (hu : X.A.units + 64 < cLine) : OpR X (compareOp .Eq) (rEqK X.K id) := by
  intro pins s σ H x y v u Q I rx ry h
  rcases h with ⟨i, j, rfl, rfl, q⟩ | ⟨i, j, rfl, rfl, q⟩ | h
  · exact op_eq pins s σ H _ _ v u Q I rx ry ⟨rfl, by rw [dec_int]; exact q⟩
  · exact op_eq pins s σ H _ _ v u Q I rx ry ⟨rfl, by rw [dec_str]; exact q⟩
  · exact op_eqD hu pins s σ H x y v u Q I rx ry h
theorem op_neK {X : Cx} (hu : X.A.units + 64 < cLine) : OpR X (compareOp .NotEq) (rEqK X.K not) := by
  intro pins s σ H x y v u Q I rx ry h
  rcases h with ⟨i, j, rfl, rfl, q⟩ | ⟨i, j, rfl, rfl, q⟩ | h
  · exact op_ne pins s σ H _ _ v u Q I rx ry ⟨rfl, by rw [dec_int]; exact q⟩
  · exact op_ne pins s σ H _ _ v u Q I rx ry ⟨rfl, by rw [dec_str]; exact q⟩
  · exact op_neD hu pins s σ H x y v u Q I rx ry h
theorem okD_shaped {w : W} (h : okD w) : SeqAt.shaped (toD w) = true := by
  unfold SeqAt.shaped
  rw [lay_toD w h.1, dep_toD, Bool.true_and]
  exact decide_eq_true h.2
theorem valEq {K : PySem.W.Frag} {ct : CT} {Wx : WX} {k : Bool → Bool} : ValR K ct Wx (rEqK K k) (vEq k) := by
  intro S φ H ρ M σ x v y u Q sr rx ry q
  unfold vEq at q
  split at q
  · cases rx; cases ry
    exact .inl ⟨_, _, rfl, rfl, PostG.ok (Wx := Wx) (Rel := RelW K ct) (a := W.bl _) sr rfl q⟩
  · cases rx; cases ry
    exact .inr (.inl ⟨_, _, rfl, rfl, PostG.ok (Wx := Wx) (Rel := RelW K ct) (a := W.bl _) sr rfl q⟩)
  · obtain ⟨h1, q⟩ := PostG.when q
    obtain ⟨h2, q⟩ := PostG.when q
    refine .inr (.inr ⟨_, _, look_ok sr.mem rx h1.1, look_ok sr.mem ry h2.1, okD_shaped h1, okD_shaped h2, ?_⟩)
    rw [weq_toD _ _ h1.1 h2.1]
    exact PostG.ok (Wx := Wx) (Rel := RelW K ct) (a := W.bl _) sr rfl q

/-! ### in, not in -/
def flatWs : List W → Bool
  | [] => true
  | x :: xs => flatW x && flatWs xs
def inW (x : W) : List W → Bool
  | [] => false
  | y :: ys => weq y x || inW x ys
/-- a list, a tuple -/
def asS (M : Mem) (w : W) : Option (List W) := match asT w with
  | some ws => some ws
  | none => asQ M w
theorem asS_ok {K : PySem.W.Frag} {ct : CT} {S : Addr → Prop} {φ : List Addr} {H : Hp} {M : Mem} (r : RM K ct S φ H M) {w : W} {v : V} {ws : List W} (h : RV K ct S φ H w v) (e : asS M w = some ws) :
    ∃ a vs, v = .ref a ∧ (SqL K H a vs ∨ SqT K H a vs) ∧ RVs K ct S φ H ws vs := by
  unfold asS at e
  split at e
  · rename_i us e'
    cases e
    obtain ⟨a, vs, e1, h1, h2⟩ := asT_ok h e'
    exact ⟨a, vs, e1, .inr h1, h2⟩
  · obtain ⟨a, vs, e1, h1, h2⟩ := asQ_ok r h e
    exact ⟨a, vs, e1, .inl h1, h2⟩
def oneSign (x : Str) : Option Nat := match x.cps.toList with
  | [c] => some c
  | _ => none
theorem oneSign_ok {x : Str} {c : Nat} (h : oneSign x = some c) : x = ⟨#[c]⟩ := by
  unfold oneSign at h
  split at h
  · rename_i c' e
    cases h
    cases x with
    | mk cps =>
      congr
      exact Array.toList_inj.mp e
  · cases h
def vIn (k : Bool → Bool) : W → W → Mem → Res W
  | .str x, .str z, M => match oneSign x with
    | some c => .ok (.bl (k (decide (c ∈ z.cps.toList)))) M
    | none => .bad
  | x, y, M => match asS M y with
    | some ys => .when (flatW x = true ∧ flatWs ys = true) (.ok (.bl (k (inW x ys))) M)
    | none => .bad
section
variable {K : PySem.W.Frag} {ct : CT} {S : Addr → Prop} {φ : List Addr} {H : Hp} {w : W} {v : V}
theorem flat_ok (h : RV K ct S φ H w v) (f : flatW w = true) : flatV v = true := by
  cases w with
  | non => cases h; rfl
  | bl b => cases h; rfl
  | int b => cases h; rfl
  | str b => cases h; rfl
  | _ => exact absurd (show false = true from f) Bool.false_ne_true
theorem eq_flat {x : W} {u : V} (h : RV K ct S φ H w v) (f : flatW w = true) (h' : RV K ct S φ H x u) (f' : flatW x = true) : eqV v u = weq w x := by
  cases w with
  | non => cases h; cases x <;> first | (cases h'; simp [eqV, weq]; done) | (exact absurd (show false = true from f') Bool.false_ne_true)
  | bl b => cases h; cases x <;> first | (cases h'; simp [eqV, weq]; done) | (exact absurd (show false = true from f') Bool.false_ne_true)
  | int b => cases h; cases x <;> first | (cases h'; simp [eqV, weq]; done) | (exact absurd (show false = true from f') Bool.false_ne_true)
  | str b => cases h; cases x <;> first | (cases h'; simp [eqV, weq]; done) | (exact absurd (show false = true from f') Bool.false_ne_true)
  | _ => exact absurd (show false = true from f) Bool.false_ne_true
theorem in_flat (h : RV K ct S φ H w v) (f : flatW w = true) : ∀ {ys : List W} {vs : List V}, RVs K ct S φ H ys vs → flatWs ys = true → vs.all flatV = true ∧ inV v vs = inW w ys
  | [], _, r, _ => by rw [show _ = _ from r]; exact ⟨rfl, rfl⟩
  | y :: ys, _, ⟨u, r, e, h1, h2⟩, g => by
    have g' : (flatW y && flatWs ys) = true := g
    rw [Bool.and_eq_true] at g'
    obtain ⟨i1, i2⟩ := in_flat h f h2 g'.2
    rw [e]
    refine ⟨by rw [List.all_cons, flat_ok h1 g'.1, i1]; rfl, ?_⟩
    show (eqV u v || inV v r) = (weq y w || inW w ys)
    rw [i2, eq_flat h1 g'.1 h f]
end
def rInK (K : PySem.W.Frag) (neg : Bool) : R2 := fun x y H Q => (∃ (c : Nat) (z : Str), x = .str ⟨#[c]⟩ ∧ y = .str z ∧ Q (.bl (if neg then !decide (c ∈ z.cps.toList) else decide (c ∈ z.cps.toList))) H) ∨ rIn K neg x y H Q
theorem op_inK {X : Cx} : OpR X (compareOp .In) (rInK X.K false) := op_in_sign.or op_in_seq
theorem op_ninK {X : Cx} : OpR X (compareOp .NotIn) (rInK X.K true) := op_notIn_sign.or op_notIn_seq
theorem valIn {K : PySem.W.Frag} {ct : CT} {Wx : WX} {neg : Bool} : ValR K ct Wx (rInK K neg) (vIn fun b => if neg then !b else b) := by
  intro S φ H ρ M σ x v y u Q sr rx ry q
  unfold vIn at q
  split at q
  · cases rx; cases ry
    split at q
    · rename_i c e
      rw [oneSign_ok e]
      exact .inl ⟨c, _, rfl, rfl, PostG.ok (Wx := Wx) (Rel := RelW K ct) (a := W.bl _) sr rfl q⟩
    · exact q.elim
  · split at q
    · rename_i ys e
      obtain ⟨hz, q⟩ := PostG.when q
      obtain ⟨a, vs, e1, h1, r1⟩ := asS_ok sr.mem ry e
      obtain ⟨i1, i2⟩ := in_flat rx hz.1 r1 hz.2
      refine .inr ⟨a, vs, e1, h1, flat_ok rx hz.1, i1, ?_⟩
      rw [i2]
      exact PostG.ok (Wx := Wx) (Rel := RelW K ct) (a := W.bl _) sr rfl q
    · exact q.elim

/-! ### is None -/
def isNon : W → Bool
  | .non => true
  | _ => false
def vIs (k : Bool → Bool) : W → W → Mem → Res W
  | x, .non, M => .ok (.bl (k (isNon x))) M
  | _, _, _ => .bad
theorem isNon_ok {K : PySem.W.Frag} {ct : CT} {S : Addr → Prop} {φ : List Addr} {H : Hp} {w : W} {v : V} (h : RV K ct S φ H w v) : decide (v = .non) = isNon w := by
  cases w with
  | non => cases h; rfl
  | bl b => cases h; rfl
  | int b => cases h; rfl
  | str b => cases h; rfl
  | tup b => obtain ⟨a, _, e, _⟩ := h; rw [e]; rfl
  | lst b => obtain ⟨a, _, e, _⟩ := h; rw [e]; rfl
  | fro b => obtain ⟨a, _, e, _⟩ := h; rw [e]; rfl
  | obj b c d => obtain ⟨a, _, _, _, e, _⟩ := h; rw [e]; rfl
  | loc b => obtain ⟨a, e, _⟩ := h; rw [e]; rfl
theorem valIs {K : PySem.W.Frag} {ct : CT} {Wx : WX} {k : Bool → Bool} : ValR K ct Wx (fun x y H Q => y = .non ∧ Q (.bl (k (decide (x = .non)))) H) (vIs k) := by
  intro S φ H ρ M σ x v y u Q sr rx ry q
  unfold vIs at q
  split at q
  · cases ry
    refine ⟨rfl, ?_⟩
    rw [isNon_ok rx]
    exact PostG.ok (Wx := Wx) (Rel := RelW K ct) (a := W.bl _) sr rfl q
  · exact q.elim
section
variable {X : Cx} {ct : CT} {Wx : WX} {pos : Pos} {a b : Expr} {da db : DEn}
-- comparisons, as values and as tests
theorem de_lt (ha : DE X ct Wx a da) (hb : DE X ct Wx b db) : DE X ct Wx (.Compare a [.Lt] [b] pos) (dBin vLt da db) := de_cmp op_lt2 valCmp ha hb (nomark _)
theorem de_le (ha : DE X ct Wx a da) (hb : DE X ct Wx b db) : DE X ct Wx (.Compare a [.LtE] [b] pos) (dBin vLe da db) := de_cmp op_le2 valCmp ha hb (nomark _)
theorem de_gt (ha : DE X ct Wx a da) (hb : DE X ct Wx b db) : DE X ct Wx (.Compare a [.Gt] [b] pos) (dBin vGt da db) := de_cmp op_gt2 valCmp ha hb (nomark _)
theorem de_ge (ha : DE X ct Wx a da) (hb : DE X ct Wx b db) : DE X ct Wx (.Compare a [.GtE] [b] pos) (dBin vGe da db) := de_cmp op_ge2 valCmp ha hb (nomark _)
theorem de_eq (hu : X.A.units + 64 < cLine) (ha : DE X ct Wx a da) (hb : DE X ct Wx b db) : DE X ct Wx (.Compare a [.Eq] [b] pos) (dBin (vEq id) da db) := de_cmp (op_eqK hu) valEq ha hb (nomark _)
theorem de_ne (hu : X.A.units + 64 < cLine) (ha : DE X ct Wx a da) (hb : DE X ct Wx b db) : DE X ct Wx (.Compare a [.NotEq] [b] pos) (dBin (vEq not) da db) := de_cmp (op_neK hu) valEq ha hb (nomark _)
theorem de_in (ha : DE X ct Wx a da) (hb : DE X ct Wx b db) (hm : behindInMarks .In b = false := by rfl) : DE X ct Wx (.Compare a [.In] [b] pos) (dBin (vIn fun b => if false then !b else b) da db) := de_cmp op_inK valIn ha hb hm
theorem de_nin (ha : DE X ct Wx a da) (hb : DE X ct Wx b db) (hm : behindInMarks .NotIn b = false := by rfl) : DE X ct Wx (.Compare a [.NotIn] [b] pos) (dBin (vIn fun b => if true then !b else b) da db) := de_cmp op_ninK valIn ha hb hm
theorem de_is (ha : DE X ct Wx a da) (hb : DE X ct Wx b db) : DE X ct Wx (.Compare a [.Is] [b] pos) (dBin (vIs id) da db) := de_cmp op_isN valIs ha hb (nomark _)
theorem de_isn (ha : DE X ct Wx a da) (hb : DE X ct Wx b db) : DE X ct Wx (.Compare a [.IsNot] [b] pos) (dBin (vIs not) da db) := de_cmp op_notN valIs ha hb (nomark _)
theorem dt_lt (ha : DE X ct Wx a da) (hb : DE X ct Wx b db) : DT X ct Wx (.Compare a [.Lt] [b] pos) (toB (dBin vLt da db)) := dt_cmp op_lt2 valCmp ha hb (nomark _)
theorem dt_le (ha : DE X ct Wx a da) (hb : DE X ct Wx b db) : DT X ct Wx (.Compare a [.LtE] [b] pos) (toB (dBin vLe da db)) := dt_cmp op_le2 valCmp ha hb (nomark _)
theorem dt_gt (ha : DE X ct Wx a da) (hb : DE X ct Wx b db) : DT X ct Wx (.Compare a [.Gt] [b] pos) (toB (dBin vGt da db)) := dt_cmp op_gt2 valCmp ha hb (nomark _)
theorem dt_ge (ha : DE X ct Wx a da) (hb : DE X ct Wx b db) : DT X ct Wx (.Compare a [.GtE] [b] pos) (toB (dBin vGe da db)) := dt_cmp op_ge2 valCmp ha hb (nomark _)
theorem dt_eq (hu : X.A.units + 64 < cLine) (ha : DE X ct Wx a da) (hb : DE X ct Wx b db) : DT X ct Wx (.Compare a [.Eq] [b] pos) (toB (dBin (vEq id) da db)) := dt_cmp (op_eqK hu) valEq ha hb (nomark _)
theorem dt_ne (hu : X.A.units + 64 < cLine) (ha : DE X ct Wx a da) (hb : DE X ct Wx b db) : DT X ct Wx (.Compare a [.NotEq] [b] pos) (toB (dBin (vEq not) da db)) := dt_cmp (op_neK hu) valEq ha hb (nomark _)
theorem dt_in (ha : DE X ct Wx a da) (hb : DE X ct Wx b db) (hm : behindInMarks .In b = false := by rfl) : DT X ct Wx (.Compare a [.In] [b] pos) (toB (dBin (vIn fun b => if false then !b else b) da db)) := dt_cmp op_inK valIn ha hb hm
theorem dt_nin (ha : DE X ct Wx a da) (hb : DE X ct Wx b db) (hm : behindInMarks .NotIn b = false := by rfl) : DT X ct Wx (.Compare a [.NotIn] [b] pos) (toB (dBin (vIn fun b => if true then !b else b) da db)) := dt_cmp op_ninK valIn ha hb hm
theorem dt_is (ha : DE X ct Wx a da) (hb : DE X ct Wx b db) : DT X ct Wx (.Compare a [.Is] [b] pos) (toB (dBin (vIs id) da db)) := dt_cmp op_isN valIs ha hb (nomark _)
theorem dt_isn (ha : DE X ct Wx a da) (hb : DE X ct Wx b db) : DT X ct Wx (.Compare a [.IsNot] [b] pos) (toB (dBin (vIs not) da db)) := dt_cmp op_notN valIs ha hb (nomark _)
end
end LP

namespace LP
open PySem PySem.Spec L2

abbrev DSn := Rho → Mem → SRes
def PostS (K : PySem.W.Frag) (ct : CT) (Wx : WX) (S : Addr → Prop) (φ : List Addr) (H : Hp) (r : SRes) (D : Ends) : Prop := match r with
  | .nx ρ M => ∀ φ' σ H', Le φ H φ' H' → SR K ct S φ' H' ρ M σ → D.nx σ H'
  | .rt w M => ∀ φ' H' v, Le φ H φ' H' → RM K ct S φ' H' M → RV K ct S φ' H' w v → D.rt v H'
  | .bk ρ M => ∀ φ' σ H', Le φ H φ' H' → SR K ct S φ' H' ρ M σ → D.bk σ H'
  | .ct ρ M => ∀ φ' σ H', Le φ H φ' H' → SR K ct S φ' H' ρ M σ → D.ct σ H'
  | .exc c e ρ M => ∀ φ' σ H' cls d, Le φ H φ' H' → SR K ct S φ' H' ρ M σ → XR ct H' c e cls d → Wx cls d σ H'
  | .bad => False
def rdS (K : PySem.W.Frag) (ct : CT) (Wx : WX) (d : DSn) : TS := fun D σ H => ∃ S φ ρ M, SR K ct S φ H ρ M σ ∧ PostS K ct Wx S φ H (d ρ M) D
structure DS (X : Cx) (ct : CT) (Wx : WX) (st : Stmt) (d : DSn) : Prop where
  ps : PS X st (rdS X.K ct Wx d)
structure DSs (X : Cx) (ct : CT) (Wx : WX) (st : List Stmt) (d : DSn) : Prop where
  pss : PSs X st (rdS X.K ct Wx d)
theorem PS.imp {X : Cx} {st : Stmt} {t t' : TS} (h : PS X st t) (i : ∀ D σ H, t' D σ H → t D σ H) : PS X st t' := ⟨fun pins s σ H D I q => h.run pins s σ H D I (i D σ H q)⟩
theorem PSs.imp {X : Cx} {st : List Stmt} {t t' : TS} (h : PSs X st t) (i : ∀ D σ H, t' D σ H → t D σ H) : PSs X st t' := ⟨fun pins s σ H D I q => h.run pins s σ H D I (i D σ H q)⟩

/-- an expression's outcome, then a statement's -/
def Res.to {α : Type} (r : Res α) (ρ : Rho) (k : α → Mem → SRes) : SRes := match r with
  | .ok a M => k a M
  | .exc c e M => .exc c e ρ M
  | .bad => .bad
def SRes.seq (r : SRes) (k : Rho → Mem → SRes) : SRes := match r with
  | .nx ρ M => k ρ M
  | r => r
section
variable {K : PySem.W.Frag} {ct : CT} {Wx : WX} {α β : Type} {Rel : RelT α β} {S : Addr → Prop} {φ φ' : List Addr} {H H' : Hp} {ρ : Rho} {M : Mem} {σ : L2.St} {D : Ends}
theorem PostS.le {r : SRes} (l : Le φ H φ' H') (h : PostS K ct Wx S φ H r D) : PostS K ct Wx S φ' H' r D := by
  cases r with
  | nx ρ M => exact fun φ2 σ H2 l2 => h φ2 σ H2 (l.trans l2)
  | rt w M => exact fun φ2 H2 v l2 => h φ2 H2 v (l.trans l2)
  | bk ρ M => exact fun φ2 σ H2 l2 => h φ2 σ H2 (l.trans l2)
  | ct ρ M => exact fun φ2 σ H2 l2 => h φ2 σ H2 (l.trans l2)
  | exc c e ρ M => exact fun φ2 σ H2 cls d l2 => h φ2 σ H2 cls d (l.trans l2)
  | bad => exact h
theorem PostS.to {r : Res α} {k : α → Mem → SRes} {R : β → Hp → Prop} (h : PostS K ct Wx S φ H (r.to ρ k) D)
    (hR : ∀ φ1 H1 M1 a b, Le φ H φ1 H1 → SR K ct S φ1 H1 ρ M1 σ → Rel S φ1 H1 a b → PostS K ct Wx S φ1 H1 (k a M1) D → R b H1) : PostG K ct Wx Rel S φ H ρ σ r R := by
  cases r with
  | ok a M => exact fun φ1 H1 b l sr rl => hR φ1 H1 M a b l sr rl (PostS.le l (show PostS K ct Wx S φ H (k a M) D from h))
  | exc c e M => exact fun φ1 H1 cls d l sr x => h φ1 σ H1 cls d l sr x
  | bad => exact h
/-- a statement, then what follows -/
theorem PostS.seq {r : SRes} {k : Rho → Mem → SRes} {N : L2.St → Hp → Prop} (h : PostS K ct Wx S φ H (r.seq k) D)
    (hN : ∀ φ1 σ1 H1 ρ1 M1, Le φ H φ1 H1 → SR K ct S φ1 H1 ρ1 M1 σ1 → PostS K ct Wx S φ1 H1 (k ρ1 M1) D → N σ1 H1) : PostS K ct Wx S φ H r { D with nx := N } := by
  cases r with
  | nx ρ M => exact fun φ1 σ1 H1 l sr => hN φ1 σ1 H1 ρ M l sr (PostS.le l (show PostS K ct Wx S φ H (k ρ M) D from h))
  | rt w M => exact h
  | bk ρ M => exact h
  | ct ρ M => exact h
  | exc c e ρ M => exact h
  | bad => exact h
theorem PostS.nx_ok (sr : SR K ct S φ H ρ M σ) (h : PostS K ct Wx S φ H (.nx ρ M) D) : D.nx σ H := h φ σ H (Le.refl _ _) sr
theorem PostS.bk_ok (sr : SR K ct S φ H ρ M σ) (h : PostS K ct Wx S φ H (.bk ρ M) D) : D.bk σ H := h φ σ H (Le.refl _ _) sr
theorem PostS.ct_ok (sr : SR K ct S φ H ρ M σ) (h : PostS K ct Wx S φ H (.ct ρ M) D) : D.ct σ H := h φ σ H (Le.refl _ _) sr
theorem PostS.rt_ok {w : W} {v : V} (r : RM K ct S φ H M) (q : RV K ct S φ H w v) (h : PostS K ct Wx S φ H (.rt w M) D) : D.rt v H := h φ H v (Le.refl _ _) r q
end

section
variable {X : Cx} {ct : CT} {Wx : WX} {pos : Pos} {e : Expr} {d : DEn} {st : Stmt} {rest : List Stmt} {s t : DSn}
def sNext : DSn := fun ρ M => .nx ρ M
def sSeq (s t : DSn) : DSn := fun ρ M => (s ρ M).seq t
theorem ds_nil : DSs X ct Wx [] sNext := ⟨PSs.imp pss_nil fun D σ H ⟨S, φ, ρ, M, sr, q⟩ => PostS.nx_ok sr q⟩
theorem ds_cons (h1 : DS X ct Wx st s) (h2 : DSs X ct Wx rest t) : DSs X ct Wx (st :: rest) (sSeq s t) :=
  ⟨PSs.imp (pss_cons h1.ps h2.pss) fun D σ H ⟨S, φ, ρ, M, sr, q⟩ => ⟨S, φ, ρ, M, sr, PostS.seq q fun φ1 σ1 H1 ρ1 M1 l sr1 q1 => ⟨S, φ1, ρ1, M1, sr1, q1⟩⟩⟩
theorem ds_last (h1 : DS X ct Wx st s) : DSs X ct Wx [st] s := ⟨pss_one h1.ps⟩
theorem ds_pass : DS X ct Wx (.Pass pos) sNext := ⟨PS.imp ps_pass fun D σ H ⟨S, φ, ρ, M, sr, q⟩ => PostS.nx_ok sr q⟩
def sBreak : DSn := fun ρ M => .bk ρ M
def sCont : DSn := fun ρ M => .ct ρ M
theorem ds_break : DS X ct Wx (.Break pos) sBreak := ⟨PS.imp ps_break fun D σ H ⟨S, φ, ρ, M, sr, q⟩ => PostS.bk_ok sr q⟩
theorem ds_continue : DS X ct Wx (.Continue pos) sCont := ⟨PS.imp ps_continue fun D σ H ⟨S, φ, ρ, M, sr, q⟩ => PostS.ct_ok sr q⟩
def sExpr (d : DEn) : DSn := fun ρ M => (d ρ M).to ρ fun _ M1 => .nx ρ M1
theorem ds_expr (he : DE X ct Wx e d) (hs : swapsWith e none pos.line X.env = pure false := by rfl) : DS X ct Wx (.Expr e pos) (sExpr d) :=
  ⟨PS.imp (ps_expr he.pe hs) fun D σ H ⟨S, φ, ρ, M, sr, q⟩ => ⟨S, φ, ρ, M, sr, PostS.to q fun φ1 H1 M1 a b l sr1 rl q1 => PostS.nx_ok sr1 q1⟩⟩
def sRet (d : DEn) : DSn := fun ρ M => (d ρ M).to ρ fun w M1 => .rt w M1
theorem ds_ret (he : DE X ct Wx e d) : DS X ct Wx (.Return (some e) pos) (sRet d) :=
  ⟨PS.imp (ps_ret he.pe) fun D σ H ⟨S, φ, ρ, M, sr, q⟩ => ⟨S, φ, ρ, M, sr, PostS.to q fun φ1 H1 M1 a b l sr1 rl q1 => PostS.rt_ok sr1.mem rl q1⟩⟩
def sRetN : DSn := fun _ M => .rt .non M
theorem ds_retN : DS X ct Wx (.Return none pos) sRetN := ⟨PS.imp ps_retN fun D σ H ⟨S, φ, ρ, M, sr, q⟩ => PostS.rt_ok (w := .non) sr.mem rfl q⟩
def sSet (i : Nat) (d : DEn) : DSn := fun ρ M => (d ρ M).to ρ fun w M1 => .nx (ρ.set i (some w)) M1
theorem ds_set {i : Nat} {x : Str} {pos' : Pos} (hN : X.N.Nodup) (hi : X.N[i]? = some x) (hx : Loc X.env.scope x) (he : DE X ct Wx e d) (hs : swapsWith e (some (.Name x pos')) pos.line X.env = pure false := by rfl)
    (hf : X.fn x = true ∨ X.env.scope.names.lookup x = some .local := by first | exact .inl rfl | exact .inr rfl | assumption) : DS X ct Wx (.Assign [.Name x pos'] e pos) (sSet i d) :=
  ⟨PS.imp (ps_set hN hi hx he.pe hs hf) fun D σ H ⟨S, φ, ρ, M, sr, q⟩ => ⟨S, φ, ρ, M, sr, PostS.to q fun φ1 H1 M1 a b l sr1 rl q1 => PostS.nx_ok (sr1.set rl) q1⟩⟩
def sIf (c : DTn) (s t : DSn) : DSn := fun ρ M => (c ρ M).to ρ fun b M1 => if b = true then s ρ M1 else t ρ M1
theorem ds_if {c : Expr} {a b : List Stmt} {tc : DTn} (hc : DT X ct Wx c tc) (ha : DSs X ct Wx a s) (hb : DSs X ct Wx b t) : DS X ct Wx (.If c a b pos) (sIf tc s t) := by
  refine ⟨PS.imp (ps_if hc.pt ha.pss hb.pss) fun D σ H ⟨S, φ, ρ, M, sr, q⟩ => ⟨S, φ, ρ, M, sr, PostS.to q fun φ1 H1 M1 x y l sr1 rl q1 => ?_⟩⟩
  cases rl
  cases x with
  | true => exact ⟨S, φ1, ρ, M1, sr1, q1⟩
  | false => exact ⟨S, φ1, ρ, M1, sr1, q1⟩
/-- name op= e -/
def sAug (i : Nat) (f : W → W → Mem → Res W) (d : DEn) : DSn := sSet i (dBin f (dVar i) d)
theorem ds_aug {i : Nat} {x : Str} {pos' : Pos} {op : Operator} {r : R2} {f : W → W → Mem → Res W} (ho : OpR X (inplaceOp op) r) (hv : ValR X.K ct Wx r f) (hN : X.N.Nodup) (hi : X.N[i]? = some x) (hx : Loc X.env.scope x) (he : DE X ct Wx e d)
    (hf : X.fn x = true ∨ X.env.scope.names.lookup x = some .local := by first | exact .inl rfl | exact .inr rfl | assumption) : DS X ct Wx (.AugAssign (.Name x pos') op e pos) (sAug i f d) := by
  refine ⟨PS.imp (ps_aug (ti := r) hN hi hx he.pe (fun pins s σ H x y v u Q => ho pins s σ H x y v u Q) hf) fun D σ H ⟨S, φ, ρ, M, sr, q⟩ => ?_⟩
  have q : PostS X.K ct Wx S φ H (((dVar i ρ M).bind fun x M1 => (d ρ M1).bind fun y M2 => f x y M2).to ρ fun w M1 => .nx (ρ.set i (some w)) M1) D := q
  unfold dVar at q
  split at q
  · rename_i w e
    obtain ⟨v, h1, h2⟩ := sr.slot i w e
    refine ⟨v, h1, S, φ, ρ, M, sr, ?_⟩
    have q : PostS X.K ct Wx S φ H (((d ρ M).bind fun y M2 => f w y M2).to ρ fun w M1 => .nx (ρ.set i (some w)) M1) D := q
    cases ed : d ρ M with
    | ok y M2 =>
      rw [ed] at q
      have q : PostS X.K ct Wx S φ H ((f w y M2).to ρ fun w M1 => .nx (ρ.set i (some w)) M1) D := q
      intro φ1 H1 u l sr1 rl
      refine hv S φ1 H1 ρ M2 σ w v y u _ sr1 (RV.mono l _ _ h2) rl (PostS.to (PostS.le l q) fun φ2 H2 M3 a b l2 sr2 rl2 q2 => PostS.nx_ok (sr2.set rl2) q2)
    | exc c e' M2 =>
      rw [ed] at q
      exact fun φ1 H1 cls dd l sr1 x => q φ1 σ H1 cls dd l sr1 x
    | bad =>
      rw [ed] at q
      exact q.elim
  · exact q.elim
/-- += of ints, of texts -/
def vIAdd : W → W → Mem → Res W
  | .int i, .int j, M => .ok (.int (i + j)) M
  | .str x, .str y, M => .when (x.length + y.length ≤ sizeLine) (.ok (.str (x ++ y)) M)
  | _, _, _ => .bad
def rIAdd : R2 := fun x y H Q => rI0 (fun i j => .int (i + j)) x y H Q ∨ (∃ i j, x = .str i ∧ y = .str j ∧ i.length + j.length ≤ sizeLine ∧ Q (.str (i ++ j)) H)
theorem iop_add2 : OpR X (inplaceOp .Add) rIAdd := iop_add.or iop_add_str
theorem valIAdd {K : PySem.W.Frag} : ValR K ct Wx rIAdd vIAdd := by
  intro S φ H ρ M σ x v y u Q sr rx ry q
  unfold vIAdd at q
  split at q
  · cases rx; cases ry
    exact .inl ⟨_, _, rfl, rfl, PostG.ok (Wx := Wx) (Rel := RelW K ct) (a := W.int _) sr rfl q⟩
  · cases rx; cases ry
    obtain ⟨hz, q⟩ := PostG.when q
    exact .inr ⟨_, _, rfl, rfl, hz, PostG.ok (Wx := Wx) (Rel := RelW K ct) (a := W.str _) sr rfl q⟩
  · exact q.elim
theorem ds_augAdd {i : Nat} {x : Str} {pos' : Pos} (hN : X.N.Nodup) (hi : X.N[i]? = some x) (hx : Loc X.env.scope x) (he : DE X ct Wx e d)
    (hf : X.fn x = true ∨ X.env.scope.names.lookup x = some .local := by first | exact .inl rfl | exact .inr rfl | assumption) : DS X ct Wx (.AugAssign (.Name x pos') .Add e pos) (sAug i vIAdd d) := ds_aug iop_add2 valIAdd hN hi hx he hf

/-! ### while -/
def FUEL : Nat := 1000000
def whileD (t : DTn) (b : DSn) : Nat → Rho → Mem → SRes
  | 0, _, _ => .bad
  | n + 1, ρ, M => (t ρ M).to ρ fun c M1 => if c = true then (match b ρ M1 with
      | .nx ρ2 M2 => whileD t b n ρ2 M2
      | .ct ρ2 M2 => whileD t b n ρ2 M2
      | .bk ρ2 M2 => .nx ρ2 M2
      | r => r) else .nx ρ M1
def sWhile (t : DTn) (b : DSn) : DSn := fun ρ M => whileD t b FUEL ρ M
theorem ds_while {c : Expr} {body : List Stmt} {tc : DTn} (hp : PassesOwn (model X.prog X.w) X.A X.env X.xe) (hc : DT X ct Wx c tc) (hb : DSs X ct Wx body s) : DS X ct Wx (.While c body [] pos) (sWhile tc s) := by
  refine ⟨PS.imp (ps_while hp hc.pt hb.pss) fun D σ H ⟨S, φ0, ρ, M, sr, q⟩ => ?_⟩
  refine ⟨fun m σ H => ∃ φ ρ M, SR X.K ct S φ H ρ M σ ∧ PostS X.K ct Wx S φ H (whileD tc s m ρ M) D, ⟨FUEL, φ0, ρ, M, sr, q⟩, ?_⟩
  rintro m σ H ⟨φ, ρ, M, sr, q⟩
  cases m with
  | zero => exact (show False from q).elim
  | succ m =>
    refine ⟨S, φ, ρ, M, sr, PostS.to q fun φ1 H1 M1 x y l sr1 rl q1 => ?_⟩
    cases rl
    cases x with
    | false => exact PostS.nx_ok sr1 q1
    | true =>
      rw [if_pos rfl] at q1 ⊢
      refine ⟨fun σ' H' => ∃ φ ρ M, SR X.K ct S φ H' ρ M σ' ∧ PostS X.K ct Wx S φ H' (whileD tc s m ρ M) D, fun σ' H' h => ⟨m, Nat.lt_succ_self m, h⟩, S, φ1, ρ, M1, sr1, ?_⟩
      cases e : s ρ M1 with
      | nx ρ2 M2 =>
        rw [e] at q1
        exact fun φ2 σ2 H2 l2 sr2 => ⟨φ2, ρ2, M2, sr2, PostS.le l2 q1⟩
      | ct ρ2 M2 =>
        rw [e] at q1
        exact fun φ2 σ2 H2 l2 sr2 => ⟨φ2, ρ2, M2, sr2, PostS.le l2 q1⟩
      | bk ρ2 M2 =>
        rw [e] at q1
        exact q1
      | rt w M2 =>
        rw [e] at q1
        exact q1
      | exc c e' ρ2 M2 =>
        rw [e] at q1
        exact q1
      | bad =>
        rw [e] at q1
        exact q1

/-! ### for -/
/-- what an iterator yields from a heap on -/
def RelI (K : PySem.W.Frag) (ct : CT) : RelT (List W) It := fun S φ H ws J => ∀ (i : Nat) S' φ' H' M', Le φ H φ' H' → (∀ a, H a ≠ none → S' a → S a) → RM K ct S' φ' H' M' →
  (∀ w, ws[i]? = some w → J.go i H' ∧ ∀ x H'', J.yld i H' x H'' → (H'' = H' ∨ ∃ p o, H' p = none ∧ H'' = upd H' p o) ∧ RV K ct S' φ' H'' w x) ∧ (i = ws.length → J.stop i H')
structure DI (X : Cx) (ct : CT) (Wx : WX) (tg iter : Expr) (d : DAn) : Prop where
  pi : PI X tg iter (rdG X.K ct Wx (RelI X.K ct) d)
/-- a target: the slots change -/
abbrev DGn := W → Rho → Mem → Option Rho
def rdTg (K : PySem.W.Frag) (ct : CT) (g : DGn) : TG := fun v σ H Q => ∃ S φ ρ M w, SR K ct S φ H ρ M σ ∧ RV K ct S φ H w v ∧ match g w ρ M with
  | some ρ' => ∀ σ', SR K ct S φ H ρ' M σ' → Q σ' H
  | none => False
structure DG (X : Cx) (ct : CT) (tg : Expr) (g : DGn) : Prop where
  pg : PG X tg (rdTg X.K ct g)
theorem PG.imp {tg : Expr} {t t' : TG} (h : PG X tg t) (i : ∀ v σ H Q, t' v σ H Q → t v σ H Q) : PG X tg t' := ⟨fun pins s σ H v u Q I r q => h.run pins s σ H v u Q I r (i v σ H Q q)⟩
theorem PI.imp {tg iter : Expr} {t t' : TI} (h : PI X tg iter t) (i : ∀ σ H R, t' σ H R → t σ H R) : PI X tg iter t' := ⟨fun pins s σ H R I q => h.run pins s σ H R I (i σ H R q)⟩
def gN (i : Nat) : DGn := fun w ρ _ => some (ρ.set i (some w))
theorem dg_name {i : Nat} {x : Str} (hN : X.N.Nodup) (hi : X.N[i]? = some x) (hx : Loc X.env.scope x) (hf : X.fn x = true ∨ X.env.scope.names.lookup x = some .local := by first | exact .inl rfl | exact .inr rfl | assumption) : DG X ct (.Name x pos) (gN i) :=
  ⟨PG.imp (pg_name hN hi hx hf) fun v σ H Q ⟨S, φ, ρ, M, w, sr, rv, q⟩ => q _ (sr.set rv)⟩
def loopD (g : DGn) (b : DSn) : List W → Rho → Mem → SRes
  | [], ρ, M => .nx ρ M
  | w :: ws, ρ, M => match g w ρ M with
    | some ρ1 => (match b ρ1 M with
      | .nx ρ2 M2 => loopD g b ws ρ2 M2
      | .ct ρ2 M2 => loopD g b ws ρ2 M2
      | .bk ρ2 M2 => .nx ρ2 M2
      | r => r)
    | none => .bad
def sFor (it : DAn) (g : DGn) (b : DSn) : DSn := fun ρ M => (it ρ M).to ρ fun ws M1 => loopD g b ws ρ M1
theorem ds_for {tg iter : Expr} {body : List Stmt} {it : DAn} {g : DGn} (hp : PassesOwn (model X.prog X.w) X.A X.env X.xe) (hc : X.calm = true) (hi : DI X ct Wx tg iter it) (hg : DG X ct tg g) (hb : DSs X ct Wx body s)
    (hs : ∀ x, foldedSetIterable iter X.env x = pure x := by intro _; rfl) : DS X ct Wx (.For tg iter body [] pos) (sFor it g s) := by
  refine ⟨PS.imp (ps_for hp hc hi.pi hg.pg hb.pss hs) fun D σ H ⟨S, φ0, ρ, M, sr, q⟩ => ⟨S, φ0, ρ, M, sr, PostS.to q fun φ1 H1 M1 ws J l1 sr1 rl1 q1 => ?_⟩⟩
  refine ⟨fun i m σ H => m = ws.length - i ∧ i ≤ ws.length ∧ ∃ φ ρ M, SR X.K ct S φ H ρ M σ ∧ Le φ1 H1 φ H ∧ PostS X.K ct Wx S φ H (loopD g s (ws.drop i) ρ M) D, ⟨ws.length, rfl, Nat.zero_le _, φ1, ρ, M1, sr1, Le.refl _ _, q1⟩, ?_⟩
  rintro i m σ2 H2 ⟨rfl, hi, φ2, ρ2, M2, sr2, l2, q2⟩
  obtain ⟨y1, y2⟩ := rl1 i S φ2 H2 M2 l2 (fun _ _ z => z) sr2.mem
  by_cases hlt : i < ws.length
  · obtain ⟨go, yl⟩ := y1 ws[i] (by simp [hlt])
    refine .inr ⟨go, fun σ' H' => i + 1 ≤ ws.length ∧ ∃ φ ρ M, SR X.K ct S φ H' ρ M σ' ∧ Le φ1 H1 φ H' ∧ PostS X.K ct Wx S φ H' (loopD g s (ws.drop (i + 1)) ρ M) D, fun σ' H' h => ⟨ws.length - (i + 1), by omega, rfl, h⟩, fun x H3 y => ?_⟩
    obtain ⟨h3, rv⟩ := yl x H3 y
    have sr3 : SR X.K ct S φ2 H3 ρ2 M2 σ2 ∧ Le φ2 H2 φ2 H3 := by
      rcases h3 with h3 | ⟨p, o, hp, h3⟩
      · rw [h3]; exact ⟨sr2, Le.refl _ _⟩
      · rw [h3]; exact ⟨sr2.laid hp, sr2.le hp⟩
    rw [List.drop_eq_getElem_cons hlt] at q2
    refine ⟨S, φ2, ρ2, M2, ws[i], sr3.1, rv, ?_⟩
    unfold loopD at q2
    cases eg : g ws[i] ρ2 M2 with
    | none =>
      rw [eg] at q2
      exact q2
    | some ρ3 =>
      rw [eg] at q2
      intro σ3 sr4
      refine ⟨S, φ2, ρ3, M2, sr4, ?_⟩
      have lb := l2.trans sr3.2
      have q2 := PostS.le sr3.2 q2
      cases e : s ρ3 M2 with
      | nx ρ4 M4 =>
        simp only [e] at q2
        exact fun φ5 σ5 H5 l5 sr5 => ⟨hlt, φ5, ρ4, M4, sr5, lb.trans l5, PostS.le l5 q2⟩
      | ct ρ4 M4 =>
        simp only [e] at q2
        exact fun φ5 σ5 H5 l5 sr5 => ⟨hlt, φ5, ρ4, M4, sr5, lb.trans l5, PostS.le l5 q2⟩
      | bk ρ4 M4 =>
        simp only [e] at q2
        exact q2
      | rt w M4 =>
        simp only [e] at q2
        exact q2
      | exc c e' ρ4 M4 =>
        simp only [e] at q2
        exact q2
      | bad =>
        simp only [e] at q2
        exact q2
  · have e : i = ws.length := by omega
    subst e
    rw [List.drop_length] at q2
    exact .inl ⟨y2 rfl, PostS.nx_ok sr2 q2⟩
end
end LP

namespace LP
open PySem PySem.Spec L2

theorem Le.seqL {K : PySem.W.Frag} {φ φ' : List Addr} {H H' : Hp} (l : Le φ H φ' H') {a : Addr} {xs : List V} (h : (Rd H a (.lst xs) ∧ a ∉ φ) ∨ KL K a xs) : SqL K H' a xs := by
  rcases h with h | h
  · exact .inl (l.rd h.1 h.2)
  · exact .inr h
theorem Le.seqT {K : PySem.W.Frag} {φ φ' : List Addr} {H H' : Hp} (l : Le φ H φ' H') {a : Addr} {xs : List V} (h : (Rd H a (.tup xs) ∧ a ∉ φ) ∨ KT K a xs) : SqT K H' a xs := by
  rcases h with h | h
  · exact .inl (l.rd h.1 h.2)
  · exact .inr h
/-- the items of a list or a tuple that stand still -/
def still : W → Option (List W)
  | .lst ws => some ws
  | .fro ws => some ws
  | _ => none
def dStill (f : W → Option (List W)) (d : DEn) : DAn := fun ρ M => (d ρ M).bind fun w M1 => match f w with
  | some ws => .ok ws M1
  | none => .bad
section
variable {X : Cx} {ct : CT} {Wx : WX} {pos : Pos} {e : Expr} {d : DEn} {tg : Expr}
theorem di_list (h : DE X ct Wx e d) : DI X ct Wx tg e (dStill still d) := by
  refine ⟨PI.imp (pi_list h.pe) fun σ H R ⟨S, φ, ρ, M, sr, q⟩ => ⟨S, φ, ρ, M, sr, PostG.bind q fun φ1 H1 M1 w v l1 sr1 r1 q1 => ?_⟩⟩
  split at q1
  · rename_i ws ew
    obtain ⟨a, vs, ev, hk, rs⟩ : ∃ a vs, v = .ref a ∧ ((Rd H1 a (.lst vs) ∧ a ∉ φ1) ∨ KL X.K a vs) ∧ RVs X.K ct S φ1 H1 ws vs := by
      cases w with
      | lst us => cases ew; obtain ⟨a, vs, e1, h1, h2⟩ := r1; exact ⟨a, vs, e1, .inl ⟨.inl h1.1, h1.2.2⟩, h2⟩
      | fro us => cases ew; obtain ⟨a, vs, e1, h1, h2⟩ := r1; exact ⟨a, vs, e1, h1.imp (fun z => ⟨z.1, z.2.2⟩) _root_.id, h2⟩
      | non => cases ew
      | bl _ => cases ew
      | int _ => cases ew
      | str _ => cases ew
      | tup _ => cases ew
      | obj _ _ _ => cases ew
      | loc _ => cases ew
    refine ⟨a, ev, ⟨vs, (Le.refl _ _).seqL hk⟩, q1 φ1 H1 _ (Le.refl _ _) sr1 fun i S2 φ2 H2 M2 l2 k2 rm => ?_⟩
    have hs := l2.seqL hk
    refine ⟨fun w hw => ?_, fun hi => ⟨vs, hs, by rw [hi, RVs.length rs]; exact Nat.le_refl _⟩⟩
    obtain ⟨u, hu, ru⟩ := RVs.get rs hw
    refine ⟨⟨vs, u, hs, hu⟩, fun x H3 y => ?_⟩
    obtain ⟨e3, y⟩ := y
    have := y vs hs
    rw [hu] at this
    cases this
    exact ⟨.inl e3, by rw [e3]; exact RV.mono l2 _ _ (RV.ownL (fun a ha h => ⟨fun z => h.1 (k2 a ha z), h.2⟩) _ _ ru)⟩
  · exact q1.elim
theorem di_tup (h : DE X ct Wx e d) : DI X ct Wx tg e (dStill asT d) := by
  refine ⟨PI.imp (pi_tup h.pe) fun σ H R ⟨S, φ, ρ, M, sr, q⟩ => ⟨S, φ, ρ, M, sr, PostG.bind q fun φ1 H1 M1 w v l1 sr1 r1 q1 => ?_⟩⟩
  split at q1
  · rename_i ws ew
    obtain ⟨a, vs, ev, hk, rs⟩ : ∃ a vs, v = .ref a ∧ ((Rd H1 a (.tup vs) ∧ a ∉ φ1) ∨ KT X.K a vs) ∧ RVs X.K ct S φ1 H1 ws vs := by
      cases w with
      | tup us => cases ew; obtain ⟨a, vs, e1, h1, h2⟩ := r1; exact ⟨a, vs, e1, h1.imp (fun z => ⟨z.1, z.2.2⟩) _root_.id, h2⟩
      | non => cases ew
      | bl _ => cases ew
      | int _ => cases ew
      | str _ => cases ew
      | lst _ => cases ew
      | fro _ => cases ew
      | obj _ _ _ => cases ew
      | loc _ => cases ew
    refine ⟨a, ev, ⟨vs, (Le.refl _ _).seqT hk⟩, q1 φ1 H1 _ (Le.refl _ _) sr1 fun i S2 φ2 H2 M2 l2 k2 rm => ?_⟩
    have hs := l2.seqT hk
    refine ⟨fun w hw => ?_, fun hi => ⟨vs, hs, by rw [hi, RVs.length rs]; exact Nat.le_refl _⟩⟩
    obtain ⟨u, hu, ru⟩ := RVs.get rs hw
    refine ⟨⟨vs, u, hs, hu⟩, fun x H3 y => ?_⟩
    obtain ⟨e3, y⟩ := y
    have := y vs hs
    rw [hu] at this
    cases this
    exact ⟨.inl e3, by rw [e3]; exact RV.mono l2 _ _ (RV.ownL (fun a ha h => ⟨fun z => h.1 (k2 a ha z), h.2⟩) _ _ ru)⟩
  · exact q1.elim
/-- a text, sign by sign -/
def signs : W → Option (List W)
  | .str x => some (x.cps.toList.map fun c => .str ⟨#[c]⟩)
  | _ => none
theorem di_str (h : DE X ct Wx e d) : DI X ct Wx tg e (dStill signs d) := by
  refine ⟨PI.imp (pi_str h.pe) fun σ H R ⟨S, φ, ρ, M, sr, q⟩ => ⟨S, φ, ρ, M, sr, PostG.bind q fun φ1 H1 M1 w v l1 sr1 r1 q1 => ?_⟩⟩
  split at q1
  · rename_i ws ew
    cases w with
    | str x =>
      cases ew
      refine ⟨x, r1, q1 φ1 H1 _ (Le.refl _ _) sr1 fun i S2 φ2 H2 M2 l2 k2 rm => ⟨fun w hw => ?_, fun hi => ?_⟩⟩
      · rw [List.getElem?_map] at hw
        obtain ⟨c, hc, ec⟩ := Option.map_eq_some_iff.mp hw
        have hc' : x.cps[i]? = some c := by simpa using hc
        refine ⟨(Array.getElem?_eq_some_iff.mp hc').1, fun y H3 hy => ?_⟩
        obtain ⟨e3, c', h1, h2⟩ := hy
        rw [hc'] at h1
        cases h1
        exact ⟨.inl e3, by rw [h2, ← ec]; exact rfl⟩
      · rw [List.length_map] at hi
        show x.cps.size ≤ i
        rw [hi]
        simp
    | non => cases ew
    | bl _ => cases ew
    | int _ => cases ew
    | tup _ => cases ew
    | lst _ => cases ew
    | fro _ => cases ew
    | obj _ _ _ => cases ew
    | loc _ => cases ew
  · exact q1.elim
def rangeW (lo : Int) (n : Nat) : List W := (List.range n).map fun i => .int (lo + (i : Nat))
def inW62 (i : Int) : Prop := -4611686018427387904 ≤ i ∧ i < 4611686018427387904
instance (i : Int) : Decidable (inW62 i) := by unfold inW62; infer_instance
def dRange1 (d : DAn) : DAn := fun ρ M => (d ρ M).bind fun ws M1 => match ws with
  | [.int j] => .when (inW62 j) (.ok (rangeW 0 j.toNat) M1)
  | _ => .bad
def dRange2 (d : DAn) : DAn := fun ρ M => (d ρ M).bind fun ws M1 => match ws with
  | [.int i, .int j] => .when (inW62 i ∧ inW62 j) (.ok (rangeW i (j - i).toNat) M1)
  | _ => .bad
theorem rangeW_len (lo : Int) (n : Nat) : (rangeW lo n).length = n := by simp [rangeW]
theorem relI_range {K : PySem.W.Frag} {S : Addr → Prop} {φ : List Addr} {H : Hp} (lo : Int) (n : Nat) : RelI K ct S φ H (rangeW lo n) (Itr lo n) := by
  intro i S2 φ2 H2 M2 l2 k2 rm
  refine ⟨fun w hw => ?_, fun hi => ?_⟩
  · unfold rangeW at hw
    rw [List.getElem?_map] at hw
    obtain ⟨c, hc, ec⟩ := Option.map_eq_some_iff.mp hw
    have hl : i < n := by
      have := (List.getElem?_eq_some_iff.mp hc).1
      simpa using this
    have e : c = i := by
      rw [List.getElem?_range hl] at hc
      exact (Option.some.inj hc).symm
    subst e
    refine ⟨hl, fun x H3 y => ?_⟩
    obtain ⟨e3, ex⟩ := y
    exact ⟨.inl e3, by rw [ex, ← ec]; exact rfl⟩
  · rw [rangeW_len] at hi
    show n ≤ i
    omega
theorem di_range1 {a : Expr} {p : Pos} {da : DAn} (hg : Gl X "range") (hm : X.mg "range" = none) (ha : DA X ct Wx [a] da) (hs : starEach [a] X.env = [(false, eval a X.env)] := by rfl) : DI X ct Wx tg (.Call (.Name "range" p) [a] [] pos) (dRange1 da) := by
  refine ⟨PI.imp (pi_range1 hg hm ha.pa hs) fun σ H R ⟨S, φ, ρ, M, sr, q⟩ => ⟨S, φ, ρ, M, sr, PostG.bind q fun φ1 H1 M1 ws vs l1 sr1 r1 q1 => ?_⟩⟩
  split at q1
  · rename_i j
    obtain ⟨v, r, e1, h1, h2⟩ := r1
    cases h1
    cases h2
    obtain ⟨hj, q1⟩ := PostG.when q1
    exact ⟨j, e1, hj.1, hj.2, q1 φ1 H1 _ (Le.refl _ _) sr1 (relI_range 0 j.toNat)⟩
  · exact q1.elim
theorem di_range2 {a b : Expr} {p : Pos} {da : DAn} (hg : Gl X "range") (hm : X.mg "range" = none) (ha : DA X ct Wx [a, b] da) (hs : starEach [a, b] X.env = [(false, eval a X.env), (false, eval b X.env)] := by rfl) (hs2 : starEach [b] X.env = [(false, eval b X.env)] := by rfl) :
    DI X ct Wx tg (.Call (.Name "range" p) [a, b] [] pos) (dRange2 da) := by
  refine ⟨PI.imp (pi_range2 hg hm ha.pa hs hs2) fun σ H R ⟨S, φ, ρ, M, sr, q⟩ => ⟨S, φ, ρ, M, sr, PostG.bind q fun φ1 H1 M1 ws vs l1 sr1 r1 q1 => ?_⟩⟩
  split at q1
  · rename_i i j
    obtain ⟨v, r, e1, h1, v2, r2, e2, h2, h3⟩ := r1
    cases h1
    cases h2
    cases h3
    subst e2
    obtain ⟨⟨hi, hj⟩, q1⟩ := PostG.when q1
    exact ⟨i, j, e1, ⟨hi.1, hi.2, hj.1, hj.2⟩, q1 φ1 H1 _ (Le.refl _ _) sr1 (relI_range i (j - i).toNat)⟩
  · exact q1.elim

/-! ### subscripts -/
def ixW (ws : List W) (i : Int) : Option W := atI ws i
def vIx : W → W → Mem → Res W
  | .str z, .int i, M => match atI z.cps.toList i with
    | some c => .when (z.length ≤ sizeLine) (.ok (.str ⟨#[c]⟩) M)
    | none => .bad
  | x, .int i, M => match asS M x with
    | some ws => (match atI ws i with
      | some w => .ok w M
      | none => .bad)
    | none => .bad
  | _, _, _ => .bad
theorem RVs.atI {K : PySem.W.Frag} {S : Addr → Prop} {φ : List Addr} {H : Hp} {ws : List W} {vs : List V} {i : Int} {w : W} (r : RVs K ct S φ H ws vs) (h : L2.atI ws i = some w) : ∃ v, L2.atI vs i = some v ∧ RV K ct S φ H w v := by
  unfold L2.atI at h ⊢
  rw [← RVs.length r]
  cases e : ixN ws.length i with
  | none => rw [e] at h; cases h
  | some j =>
    rw [e] at h
    exact RVs.get r h
theorem valIx {K : PySem.W.Frag} : ValR K ct Wx (rIx K) vIx := by
  intro S φ H ρ M σ x v y u Q sr rx ry q
  unfold vIx at q
  split at q
  · cases rx; cases ry
    split at q
    · rename_i c e
      obtain ⟨hz, q⟩ := PostG.when q
      exact .inr (.inr ⟨_, _, c, rfl, rfl, hz, e, PostG.ok (Wx := Wx) (Rel := RelW K ct) (a := W.str _) sr rfl q⟩)
    · exact q.elim
  · cases ry
    split at q
    · rename_i ws e
      split at q
      · rename_i w ew
        obtain ⟨a, vs, e1, h1, r1⟩ := asS_ok sr.mem rx e
        obtain ⟨t, ht, rt⟩ := RVs.atI r1 ew
        rcases h1 with h1 | h1
        · exact .inl ⟨a, vs, _, t, e1, rfl, h1, ht, PostG.ok (Wx := Wx) (Rel := RelW K ct) sr rt q⟩
        · exact .inr (.inl ⟨a, vs, _, t, e1, rfl, h1, ht, PostG.ok (Wx := Wx) (Rel := RelW K ct) sr rt q⟩)
      · exact q.elim
    · exact q.elim
  · exact q.elim
variable {a b : Expr} {da db : DEn}
theorem de_ix (ha : DE X ct Wx a da) (hb : DE X ct Wx b db) (hs : PlainIx b := by exact fun _ _ => rfl) : DE X ct Wx (.Subscript a b pos) (dBin vIx da db) := ⟨PE.imp (pe_ix ix_seq ha.pe hb.pe hs) (tOp_of valIx)⟩

/-! ### slices -/
abbrev DOn := Rho → Mem → Res (Option Int)
structure DO (X : Cx) (ct : CT) (Wx : WX) (e : Option Expr) (d : DOn) : Prop where
  po : PO X e (rdG X.K ct Wx (fun _ _ _ a b => a = b) d)
theorem PO.imp {e : Option Expr} {t t' : TO} (h : PO X e t) (i : ∀ σ H Q, t' σ H Q → t σ H Q) : PO X e t' := ⟨fun pins s σ H Q I q => h.run pins s σ H Q I (i σ H Q q)⟩
def oNone : DOn := fun _ M => .ok none M
def oSome (d : DEn) : DOn := fun ρ M => (d ρ M).bind fun w M1 => match w with
  | .int i => .ok (some i) M1
  | _ => .bad
theorem do_none : DO X ct Wx none oNone := ⟨PO.imp po_none fun σ H Q ⟨S, φ, ρ, M, sr, q⟩ => PostG.ok (Wx := Wx) (Rel := (fun _ _ _ a b => a = b : RelT (Option Int) (Option Int))) (a := none) sr rfl q⟩
theorem do_some (h : DE X ct Wx e d) : DO X ct Wx (some e) (oSome d) := by
  refine ⟨PO.imp (po_some h.pe) fun σ H Q ⟨S, φ, ρ, M, sr, q⟩ => ⟨S, φ, ρ, M, sr, PostG.bind q fun φ1 H1 M1 w v l1 sr1 r1 q1 => ?_⟩⟩
  split at q1
  · cases r1
    exact ⟨_, rfl, PostG.ok (Wx := Wx) (Rel := (fun _ _ _ a b => a = b : RelT (Option Int) (Option Int))) (a := some _) sr1 rfl q1⟩
  · exact q1.elim
def cutW (xs : List W) (lo hi : Option Int) : List W := (xs.drop (HT.sIx xs.length 0 lo)).take (HT.sIx xs.length xs.length hi - HT.sIx xs.length 0 lo)
/-- a slice of a text, a tuple; of a list as a value -/
def vSl (x : W) (lo hi : Option Int) (M : Mem) : Res W := match x with
  | .str z => .when (z.length ≤ sizeLine) (.ok (.str (cutS z lo hi)) M)
  | .tup ws => .ok (.tup (cutW ws lo hi)) M
  | x => match asQ M x with
    | some ws => .ok (.lst (cutW ws lo hi)) M
    | none => .bad
def dSl (d : DEn) (l h : DOn) : DEn := fun ρ M => (d ρ M).bind fun x M1 => (l ρ M1).bind fun lo M2 => (h ρ M2).bind fun hi M3 => vSl x lo hi M3
theorem RVs.cut {K : PySem.W.Frag} {S : Addr → Prop} {φ : List Addr} {H : Hp} {ws : List W} {vs : List V} {lo hi : Option Int} (r : RVs K ct S φ H ws vs) : RVs K ct S φ H (cutW ws lo hi) (cutV vs lo hi) := by
  unfold cutW cutV
  rw [← RVs.length r]
  exact (r.drop _).take _
theorem cutW_all {ws : List W} {lo hi : Option Int} (h : HT.sIx ws.length 0 lo = 0 ∧ HT.sIx ws.length ws.length hi = ws.length) : cutW ws lo hi = ws := by
  unfold cutW
  rw [h.1, h.2]
  simp
theorem de_sl {lo hi : Option Expr} {p2 : Pos} {dl dh : DOn} (he : DE X ct Wx e d) (hl : DO X ct Wx lo dl) (hh : DO X ct Wx hi dh) : DE X ct Wx (.Subscript e (.Slice lo hi none p2) pos) (dSl d dl dh) := by
  refine ⟨PE.imp (pe_slice (sl_str.or (sl_tupA.or sl_list)) he.pe hl.po hh.po) fun σ H Q ⟨S, φ, ρ, M, sr, q⟩ => ⟨S, φ, ρ, M, sr, PostG.bind q fun φ1 H1 M1 x v l1 sr1 r1 q1 => ⟨S, φ1, ρ, M1, sr1, PostG.bind q1 fun φ2 H2 M2 lo lo' l2 sr2 r2 q2 => ⟨S, φ2, ρ, M2, sr2, PostG.bind q2 fun φ3 H3 M3 hi hi' l3 sr3 r3 q3 => ?_⟩⟩⟩⟩
  cases r2
  cases r3
  have r1 := RV.mono (l2.trans l3) _ _ r1
  unfold vSl at q3
  split at q3
  · cases r1
    obtain ⟨hz, q3⟩ := PostG.when q3
    exact .inl ⟨_, rfl, hz, PostG.ok (Wx := Wx) (Rel := RelW X.K ct) (a := W.str _) sr3 rfl q3⟩
  · rename_i ws _
    obtain ⟨a, vs, e1, h1, r1'⟩ := asT_ok (w := .tup ws) r1 rfl
    refine .inr (.inl ⟨a, vs, e1, h1, fun hw => ?_, fun _ p hp => tup_new sr3 (RVs.cut r1') q3 hp⟩)
    rw [← RVs.length r1'] at hw
    rw [cutW_all hw] at q3
    subst e1
    exact PostG.ok (Wx := Wx) (Rel := RelW X.K ct) sr3 r1 q3
  · split at q3
    · rename_i ws e
      obtain ⟨a, vs, e1, h1, r1'⟩ := asQ_ok sr3.mem r1 e
      exact .inr (.inr ⟨a, vs, e1, h1, fun p hp => lst_new sr3 (RVs.cut r1') q3 hp⟩)
    · exact q3.elim
/-- a slice of a list as a new list -/
def dSlL (d : DEn) (l h : DOn) : DAn := fun ρ M => (d ρ M).bind fun x M1 => (l ρ M1).bind fun lo M2 => (h ρ M2).bind fun hi M3 => match asQ M3 x with
  | some ws => .ok (cutW ws lo hi) M3
  | none => .bad
theorem dl_sl {lo hi : Option Expr} {p2 : Pos} {dl dh : DOn} (he : DE X ct Wx e d) (hl : DO X ct Wx lo dl) (hh : DO X ct Wx hi dh) : DL X ct Wx (.Subscript e (.Slice lo hi none p2) pos) (dSlL d dl dh) := by
  refine ⟨PE.imp (pe_slice sl_list he.pe hl.po hh.po) fun σ H Q ⟨S, φ, ρ, M, sr, q⟩ => ⟨S, φ, ρ, M, sr, PostG.bind q fun φ1 H1 M1 x v l1 sr1 r1 q1 => ⟨S, φ1, ρ, M1, sr1, PostG.bind q1 fun φ2 H2 M2 lo lo' l2 sr2 r2 q2 => ⟨S, φ2, ρ, M2, sr2, PostG.bind q2 fun φ3 H3 M3 hi hi' l3 sr3 r3 q3 => ?_⟩⟩⟩⟩
  cases r2
  cases r3
  have r1 := RV.mono (l2.trans l3) _ _ r1
  split at q3
  · rename_i ws e
    obtain ⟨a, vs, e1, h1, r1'⟩ := asQ_ok sr3.mem r1 e
    exact ⟨a, vs, e1, h1, fun p hp => q3 φ3 H3 _ (Le.refl _ _) sr3 (RVs.cut r1') p hp⟩
  · exact q3.elim
/-- list + list as a new list -/
def dCat (da db : DEn) : DAn := fun ρ M => (da ρ M).bind fun x M1 => (db ρ M1).bind fun y M2 => match asL M2 x, asL M2 y with
  | some xs, some ys => .when (xs.length + ys.length ≤ sizeLine) (.ok (xs ++ ys) M2)
  | _, _ => .bad
theorem dl_cat (ha : DE X ct Wx a da) (hb : DE X ct Wx b db) : DL X ct Wx (.BinOp a .Add b pos) (dCat da db) := by
  refine ⟨PE.imp (pe_op op_cat ha.pe hb.pe) fun σ H Q ⟨S, φ, ρ, M, sr, q⟩ => ⟨S, φ, ρ, M, sr, PostG.bind q fun φ1 H1 M1 x v l1 sr1 r1 q1 => ⟨S, φ1, ρ, M1, sr1, PostG.bind q1 fun φ2 H2 M2 y u l2 sr2 r2 q2 => ?_⟩⟩⟩
  have r1 := RV.mono l2 _ _ r1
  split at q2
  · rename_i xs ys ex ey
    obtain ⟨hz, q2⟩ := PostG.when q2
    obtain ⟨a, vs, e1, h1, r1'⟩ := asL_ok sr2.mem r1 ex
    obtain ⟨b, us, e2, h2, r2'⟩ := asL_ok sr2.mem r2 ey
    exact ⟨a, b, vs, us, e1, e2, h1, h2, by rw [← RVs.length r1', ← RVs.length r2']; exact hz, fun p hp => q2 φ2 H2 _ (Le.refl _ _) sr2 (RVs.append r1' r2') p hp⟩
  · exact q2.elim
/-- list * int as a new list -/
def dRep (da db : DEn) : DAn := fun ρ M => (da ρ M).bind fun x M1 => (db ρ M1).bind fun y M2 => match asL M2 x, y with
  | some xs, .int k => .when ((-9223372036854775808 ≤ k ∧ k < 9223372036854775808) ∧ xs.length * k.toNat ≤ sizeLine) (.ok (List.replicate k.toNat xs).flatten M2)
  | _, _ => .bad
theorem dl_rep (ha : DE X ct Wx a da) (hb : DE X ct Wx b db) : DL X ct Wx (.BinOp a .Mult b pos) (dRep da db) := by
  refine ⟨PE.imp (pe_op op_rep ha.pe hb.pe) fun σ H Q ⟨S, φ, ρ, M, sr, q⟩ => ⟨S, φ, ρ, M, sr, PostG.bind q fun φ1 H1 M1 x v l1 sr1 r1 q1 => ⟨S, φ1, ρ, M1, sr1, PostG.bind q1 fun φ2 H2 M2 y u l2 sr2 r2 q2 => ?_⟩⟩⟩
  have r1 := RV.mono l2 _ _ r1
  split at q2
  · rename_i xs k ex
    cases r2
    obtain ⟨⟨⟨h0, h3⟩, hz⟩, q2⟩ := PostG.when q2
    obtain ⟨a, vs, e1, h1, r1'⟩ := asL_ok sr2.mem r1 ex
    exact ⟨a, k, vs, e1, rfl, h1, h0, h3, by rw [← RVs.length r1']; exact hz, fun p hp => q2 φ2 H2 _ (Le.refl _ _) sr2 (RVs.flat r1' k.toNat) p hp⟩
  · exact q2.elim
end
end LP

namespace LP
open PySem PySem.Spec L2

/-! ### calls of built-ins, by values -/
def dCall (f : List W → Mem → Res W) (d : DAn) : DEn := fun ρ M => (d ρ M).bind f
def CValR (K : PySem.W.Frag) (ct : CT) (Wx : WX) (r : List V → Hp → VK → Prop) (f : List W → Mem → Res W) : Prop :=
  ∀ S φ H ρ M σ ws vs Q, SR K ct S φ H ρ M σ → RVs K ct S φ H ws vs → PostG K ct Wx (RelW K ct) S φ H ρ σ (f ws M) Q → r vs H Q
/-- a new list out -/
def CLstR (K : PySem.W.Frag) (ct : CT) (Wx : WX) (r : List V → Hp → VK → Prop) (f : List W → Mem → Res (List W)) : Prop :=
  ∀ S φ H ρ M σ ws vs Q, SR K ct S φ H ρ M σ → RVs K ct S φ H ws vs → PostG K ct Wx (RelWs K ct) S φ H ρ σ (f ws M) (fun us H1 => ∀ p, H1 p = none → Q (.ref p) (upd H1 p (.lst us))) → r vs H Q
section
variable {X : Cx} {ct : CT} {Wx : WX} {pos p : Pos} {e : Expr} {es : List Expr} {d : DEn} {da : DAn} {x : Str} {id T : String} {r : List V → Hp → VK → Prop} {f : List W → Mem → Res W} {g : List W → Mem → Res (List W)}
theorem tCB_of {K : PySem.W.Frag} (hv : CValR K ct Wx r f) : ∀ σ H Q, rdE K ct Wx (dCall f da) σ H Q → tCB r (rdA K ct Wx da) σ H Q := by
  intro σ H Q ⟨S, φ, ρ, M, sr, q⟩
  exact ⟨S, φ, ρ, M, sr, PostG.bind q fun φ1 H1 M1 ws vs l1 sr1 r1 q1 => hv S φ1 H1 ρ M1 σ ws vs Q sr1 r1 q1⟩
theorem tCBl_of {K : PySem.W.Frag} (hv : CLstR K ct Wx r g) : ∀ σ H Q, rdL K ct Wx (fun ρ M => (da ρ M).bind g) σ H Q → tCB r (rdA K ct Wx da) σ H Q := by
  intro σ H Q ⟨S, φ, ρ, M, sr, q⟩
  exact ⟨S, φ, ρ, M, sr, PostG.bind q fun φ1 H1 M1 ws vs l1 sr1 r1 q1 => hv S φ1 H1 ρ M1 σ ws vs Q sr1 r1 q1⟩
theorem de_callB (hc : CallR X (.builtin id) r) (hv : CValR X.K ct Wx r f) (hg : Gl X x) (hm : X.mg x = none) (hb : bootBuiltins x = some (.builtin id)) (ha : DA X ct Wx (e :: es) da) (hn : x ≠ "__name__" := by decide) (hdb : (x == ("__debug__" : Str)) = false := by decide)
    (he : starEach (e :: es) X.env = (false, eval e X.env) :: starEach es X.env := by rfl) (hpl : (backTo pos (starEach es X.env)).any (·.1) = false := by rfl) : DE X ct Wx (.Call (.Name x p) (e :: es) [] pos) (dCall f da) :=
  ⟨PE.imp (pe_callB hc hg hm hb ha.pa hn hdb he hpl) (tCB_of hv)⟩
theorem de_callTy (hc : CallR X (.type T) r) (hv : CValR X.K ct Wx r f) (hg : Gl X x) (hm : X.mg x = none) (hb : bootBuiltins x = some (.type T)) (ha : DA X ct Wx (e :: es) da) (hn : x ≠ "__name__" := by decide) (hdb : (x == ("__debug__" : Str)) = false := by decide)
    (he : starEach (e :: es) X.env = (false, eval e X.env) :: starEach es X.env := by rfl) (hpl : (backTo pos (starEach es X.env)).any (·.1) = false := by rfl) : DE X ct Wx (.Call (.Name x p) (e :: es) [] pos) (dCall f da) :=
  ⟨PE.imp (pe_callTy hc hg hm hb ha.pa hn hdb he hpl) (tCB_of hv)⟩
theorem dl_callB (hc : CallR X (.builtin id) r) (hv : CLstR X.K ct Wx r g) (hg : Gl X x) (hm : X.mg x = none) (hb : bootBuiltins x = some (.builtin id)) (ha : DA X ct Wx (e :: es) da) (hn : x ≠ "__name__" := by decide) (hdb : (x == ("__debug__" : Str)) = false := by decide)
    (he : starEach (e :: es) X.env = (false, eval e X.env) :: starEach es X.env := by rfl) (hpl : (backTo pos (starEach es X.env)).any (·.1) = false := by rfl) : DL X ct Wx (.Call (.Name x p) (e :: es) [] pos) (fun ρ M => (da ρ M).bind g) :=
  ⟨PE.imp (pe_callB hc hg hm hb ha.pa hn hdb he hpl) (tCBl_of hv)⟩
theorem dl_callTy (hc : CallR X (.type T) r) (hv : CLstR X.K ct Wx r g) (hg : Gl X x) (hm : X.mg x = none) (hb : bootBuiltins x = some (.type T)) (ha : DA X ct Wx (e :: es) da) (hn : x ≠ "__name__" := by decide) (hdb : (x == ("__debug__" : Str)) = false := by decide)
    (he : starEach (e :: es) X.env = (false, eval e X.env) :: starEach es X.env := by rfl) (hpl : (backTo pos (starEach es X.env)).any (·.1) = false := by rfl) : DL X ct Wx (.Call (.Name x p) (e :: es) [] pos) (fun ρ M => (da ρ M).bind g) :=
  ⟨PE.imp (pe_callTy hc hg hm hb ha.pa hn hdb he hpl) (tCBl_of hv)⟩
end

section
variable {K : PySem.W.Frag} {ct : CT} {Wx : WX}
/-- len -/
def fLen : List W → Mem → Res W
  | [.str z], M => .when (z.length ≤ sizeLine) (.ok (.int z.length) M)
  | [x], M => match asS M x with
    | some ws => .ok (.int ws.length) M
    | none => .bad
  | _, _ => .bad
theorem valLen : CValR K ct Wx (fun xs H Q => ∃ x n, xs = [x] ∧ LenV K x H n ∧ Q (.int n) H) fLen := by
  intro S φ H ρ M σ ws vs Q sr r q
  unfold fLen at q
  split at q
  · obtain ⟨v, r', e1, h1, h2⟩ := r
    cases h1; cases h2
    obtain ⟨hz, q⟩ := PostG.when q
    exact ⟨_, _, e1, ⟨hz, rfl⟩, PostG.ok (Wx := Wx) (Rel := RelW K ct) (a := W.int _) sr rfl q⟩
  · obtain ⟨v, r', e1, h1, h2⟩ := r
    cases h2
    split at q
    · rename_i ws e
      obtain ⟨a, us, e2, h3, r3⟩ := asS_ok sr.mem h1 e
      subst e2
      refine ⟨.ref a, us.length, e1, ?_, ?_⟩
      · rcases h3 with h3 | h3
        · exact .inl ⟨us, h3, rfl⟩
        · exact .inr ⟨us, h3, rfl⟩
      · rw [← RVs.length r3]
        exact PostG.ok (Wx := Wx) (Rel := RelW K ct) (a := W.int _) sr rfl q
    · exact q.elim
  · exact q.elim
/-- max, min of two ints -/
def fMax2 : List W → Mem → Res W
  | [.int i, .int j], M => .ok (.int (if j > i then j else i)) M
  | _, _ => .bad
def fMin2 : List W → Mem → Res W
  | [.int i, .int j], M => .ok (.int (if j < i then j else i)) M
  | _, _ => .bad
theorem int2 {S : Addr → Prop} {φ : List Addr} {H : Hp} {i j : Int} {vs : List V} (r : RVs K ct S φ H [.int i, .int j] vs) : vs = [.int i, .int j] := by
  obtain ⟨v, r', e1, h1, v2, r2, e2, h2, h3⟩ := r
  cases h1; cases h2; cases h3
  subst e2
  exact e1
theorem valMax2 : CValR K ct Wx (fun xs H Q => ∃ i j, xs = [.int i, .int j] ∧ Q (.int (if j > i then j else i)) H) fMax2 := by
  intro S φ H ρ M σ ws vs Q sr r q
  unfold fMax2 at q
  split at q
  · exact ⟨_, _, int2 r, PostG.ok (Wx := Wx) (Rel := RelW K ct) (a := W.int _) sr rfl q⟩
  · exact q.elim
theorem valMin2 : CValR K ct Wx (fun xs H Q => ∃ i j, xs = [.int i, .int j] ∧ Q (.int (if j < i then j else i)) H) fMin2 := by
  intro S φ H ρ M σ ws vs Q sr r q
  unfold fMin2 at q
  split at q
  · exact ⟨_, _, int2 r, PostG.ok (Wx := Wx) (Rel := RelW K ct) (a := W.int _) sr rfl q⟩
  · exact q.elim
theorem one_of {S : Addr → Prop} {φ : List Addr} {H : Hp} {w : W} {vs : List V} (r : RVs K ct S φ H [w] vs) : ∃ v, vs = [v] ∧ RV K ct S φ H w v := by
  obtain ⟨v, r', e1, h1, h2⟩ := r
  cases h2
  exact ⟨v, e1, h1⟩
/-- int of a truth, of an int -/
def fInt : List W → Mem → Res W
  | [.bl b], M => .ok (.int (if b then 1 else 0)) M
  | [.int i], M => .ok (.int i) M
  | _, _ => .bad
theorem valInt : CValR K ct Wx (fun xs H Q => (∃ i, xs = [.int i] ∧ Q (.int i) H) ∨ ∃ k, xs = [.bl k] ∧ Q (.int (if k then 1 else 0)) H) fInt := by
  intro S φ H ρ M σ ws vs Q sr r q
  unfold fInt at q
  split at q
  · obtain ⟨v, e, h⟩ := one_of r
    cases h
    exact .inr ⟨_, e, PostG.ok (Wx := Wx) (Rel := RelW K ct) (a := W.int _) sr rfl q⟩
  · obtain ⟨v, e, h⟩ := one_of r
    cases h
    exact .inl ⟨_, e, PostG.ok (Wx := Wx) (Rel := RelW K ct) (a := W.int _) sr rfl q⟩
  · exact q.elim
/-- tuple(x) -/
def fTuple : List W → Mem → Res W
  | [.tup ws], M => .ok (.tup ws) M
  | [x], M => match asQ M x with
    | some ws => .ok (.tup ws) M
    | none => .bad
  | _, _ => .bad
theorem valTuple : CValR K ct Wx (fun xs H Q => ∃ p ys, xs = [.ref p] ∧ ((SqL K H p ys ∧ ∀ l, H l = none → Q (.ref l) (upd H l (.tup ys))) ∨ (SqT K H p ys ∧ Q (.ref p) H))) fTuple := by
  intro S φ H ρ M σ ws vs Q sr r q
  unfold fTuple at q
  split at q
  · obtain ⟨v, e, h⟩ := one_of r
    obtain ⟨a, us, e1, h1, r1⟩ := asT_ok (w := .tup _) h rfl
    subst e1
    exact ⟨a, us, e, .inr ⟨h1, PostG.ok (Wx := Wx) (Rel := RelW K ct) sr h q⟩⟩
  · obtain ⟨v, e, h⟩ := one_of r
    split at q
    · rename_i ws ew
      obtain ⟨a, us, e1, h1, r1⟩ := asQ_ok sr.mem h ew
      subst e1
      exact ⟨a, us, e, .inl ⟨h1, fun p hp => tup_new sr r1 q hp⟩⟩
    · exact q.elim
  · exact q.elim
/-- list(x) -/
def fList : List W → Mem → Res (List W)
  | [x], M => match asS M x with
    | some ws => .ok ws M
    | none => .bad
  | _, _ => .bad
theorem valList : CLstR K ct Wx (fun xs H Q => ∃ p ys, xs = [.ref p] ∧ (SqL K H p ys ∨ SqT K H p ys) ∧ ∀ l, H l = none → Q (.ref l) (upd H l (.lst ys))) fList := by
  intro S φ H ρ M σ ws vs Q sr r q
  unfold fList at q
  split at q
  · obtain ⟨v, e, h⟩ := one_of r
    split at q
    · rename_i ws ew
      obtain ⟨a, us, e1, h1, r1⟩ := asS_ok sr.mem h ew
      subst e1
      exact ⟨a, us, e, h1, fun p hp => q φ H us (Le.refl _ _) sr r1 p hp⟩
    · exact q.elim
  · exact q.elim
/-- all items read by one reader -/
def allOf {α : Type} (f : W → Option α) : List W → Option (List α)
  | [] => some []
  | w :: r => match f w, allOf f r with
    | some x, some xs => some (x :: xs)
    | _, _ => none
theorem allOf_ok {α : Type} {f : W → Option α} {g : α → V} {S : Addr → Prop} {φ : List Addr} {H : Hp} (hf : ∀ w v x, RV K ct S φ H w v → f w = some x → v = g x) : ∀ {ws : List W} {vs : List V} {xs : List α}, RVs K ct S φ H ws vs → allOf f ws = some xs → vs = xs.map g := by
  intro ws
  induction ws with
  | nil =>
    intro vs xs r e
    cases e
    exact r
  | cons w ws ih =>
    intro vs xs r e
    obtain ⟨v, r', e1, h1, h2⟩ := r
    unfold allOf at e
    split at e
    · rename_i x ys hx hy
      cases e
      rw [e1, hf w v x h1 hx, ih h2 hy]
      rfl
    · cases e
def asI : W → Option Int
  | .int i => some i
  | _ => none
def asB : W → Option Bool
  | .bl i => some i
  | _ => none
def asStr : W → Option Str
  | .str i => some i
  | _ => none
theorem asI_eq {w : W} {i : Int} (h : asI w = some i) : w = .int i := by
  cases w with
  | int j => cases h; rfl
  | _ => cases h
theorem asB_eq {w : W} {i : Bool} (h : asB w = some i) : w = .bl i := by
  cases w with
  | bl j => cases h; rfl
  | _ => cases h
theorem asStr_eq {w : W} {i : Str} (h : asStr w = some i) : w = .str i := by
  cases w with
  | str j => cases h; rfl
  | _ => cases h
abbrev intsOf := allOf asI
abbrev boolsOf := allOf asB
abbrev strsOf := allOf asStr
theorem ints_ok {S : Addr → Prop} {φ : List Addr} {H : Hp} {ws : List W} {vs : List V} {ns : List Int} (r : RVs K ct S φ H ws vs) (e : intsOf ws = some ns) : vs = ns.map V.int :=
  allOf_ok (fun w v x h q => by rw [asI_eq q] at h; exact h) r e
theorem bools_ok {S : Addr → Prop} {φ : List Addr} {H : Hp} {ws : List W} {vs : List V} {ns : List Bool} (r : RVs K ct S φ H ws vs) (e : boolsOf ws = some ns) : vs = ns.map V.bl :=
  allOf_ok (fun w v x h q => by rw [asB_eq q] at h; exact h) r e
theorem strs_ok {S : Addr → Prop} {φ : List Addr} {H : Hp} {ws : List W} {vs : List V} {ns : List Str} (r : RVs K ct S φ H ws vs) (e : strsOf ws = some ns) : vs = ns.map V.str :=
  allOf_ok (fun w v x h q => by rw [asStr_eq q] at h; exact h) r e
def fSum : List W → Mem → Res W
  | [x], M => match (asQ M x).bind intsOf with
    | some ns => .ok (.int ns.sum) M
    | none => .bad
  | _, _ => .bad
theorem valSum : CValR K ct Wx (rSum K) fSum := by
  intro S φ H ρ M σ ws vs Q sr r q
  unfold fSum at q
  split at q
  · obtain ⟨v, e, h⟩ := one_of r
    split at q
    · rename_i ns en
      obtain ⟨us, e2, e3⟩ := Option.bind_eq_some_iff.mp en
      obtain ⟨a, ts, e1, h1, r1⟩ := asQ_ok sr.mem h e2
      rw [ints_ok r1 e3] at h1
      subst e1
      exact ⟨a, ns, e, h1, PostG.ok (Wx := Wx) (Rel := RelW K ct) (a := W.int _) sr rfl q⟩
    · exact q.elim
  · exact q.elim
def fAll : List W → Mem → Res W
  | [x], M => match (asQ M x).bind boolsOf with
    | some bs => .ok (.bl (bs.all id)) M
    | none => .bad
  | _, _ => .bad
theorem valAll : CValR K ct Wx (rAll K) fAll := by
  intro S φ H ρ M σ ws vs Q sr r q
  unfold fAll at q
  split at q
  · obtain ⟨v, e, h⟩ := one_of r
    split at q
    · rename_i ns en
      obtain ⟨us, e2, e3⟩ := Option.bind_eq_some_iff.mp en
      obtain ⟨a, ts, e1, h1, r1⟩ := asQ_ok sr.mem h e2
      rw [bools_ok r1 e3] at h1
      subst e1
      exact ⟨a, ns, e, h1, PostG.ok (Wx := Wx) (Rel := RelW K ct) (a := W.bl _) sr rfl q⟩
    · exact q.elim
  · exact q.elim
/-- the greatest, the least of some ints -/
def maxI : List Int → Int
  | [] => 0
  | [x] => x
  | x :: y :: r => max x (maxI (y :: r))
def minI : List Int → Int
  | [] => 0
  | [x] => x
  | x :: y :: r => min x (minI (y :: r))
theorem maxI_of : ∀ {ns : List Int} {m : Int}, m ∈ ns → (∀ y, y ∈ ns → y ≤ m) → maxI ns = m
  | [x], m, h, _ => by rw [List.mem_singleton.mp h]; rfl
  | x :: y :: r, m, h, hl => by
    show max x (maxI (y :: r)) = m
    have hx := hl x List.mem_cons_self
    rcases List.mem_cons.mp h with e | h'
    · -- x itself
      have : ∀ (zs : List Int), zs ≠ [] → (∀ z, z ∈ zs → z ≤ m) → maxI zs ≤ m := by
        intro zs
        induction zs with
        | nil => intro h; exact absurd rfl h
        | cons a t ih =>
          intro _ hz
          cases t with
          | nil => exact hz a List.mem_cons_self
          | cons b u =>
            show max a (maxI (b :: u)) ≤ m
            have h1 := hz a List.mem_cons_self
            have h2 := ih (by simp) fun z hz' => hz z (List.mem_cons_of_mem _ hz')
            omega
      have q := this (y :: r) (by simp) fun z hz => hl z (List.mem_cons_of_mem _ hz)
      omega
    · rw [maxI_of h' fun z hz => hl z (List.mem_cons_of_mem _ hz)]
      omega
theorem minI_of : ∀ {ns : List Int} {m : Int}, m ∈ ns → (∀ y, y ∈ ns → m ≤ y) → minI ns = m
  | [x], m, h, _ => by rw [List.mem_singleton.mp h]; rfl
  | x :: y :: r, m, h, hl => by
    show min x (minI (y :: r)) = m
    have hx := hl x List.mem_cons_self
    rcases List.mem_cons.mp h with e | h'
    · have : ∀ (zs : List Int), zs ≠ [] → (∀ z, z ∈ zs → m ≤ z) → m ≤ minI zs := by
        intro zs
        induction zs with
        | nil => intro h; exact absurd rfl h
        | cons a t ih =>
          intro _ hz
          cases t with
          | nil => exact hz a List.mem_cons_self
          | cons b u =>
            show m ≤ min a (minI (b :: u))
            have h1 := hz a List.mem_cons_self
            have h2 := ih (by simp) fun z hz' => hz z (List.mem_cons_of_mem _ hz')
            omega
      have q := this (y :: r) (by simp) fun z hz => hl z (List.mem_cons_of_mem _ hz)
      omega
    · rw [minI_of h' fun z hz => hl z (List.mem_cons_of_mem _ hz)]
      omega
def fMax : List W → Mem → Res W
  | [x], M => match (asQ M x).bind intsOf with
    | some ns => .when (0 < ns.length) (.ok (.int (maxI ns)) M)
    | none => .bad
  | _, _ => .bad
def fMin : List W → Mem → Res W
  | [x], M => match (asQ M x).bind intsOf with
    | some ns => .when (0 < ns.length) (.ok (.int (minI ns)) M)
    | none => .bad
  | _, _ => .bad
theorem valMax : CValR K ct Wx (rMax K) fMax := by
  intro S φ H ρ M σ ws vs Q sr r q
  unfold fMax at q
  split at q
  · obtain ⟨v, e, h⟩ := one_of r
    split at q
    · rename_i ns en
      obtain ⟨us, e2, e3⟩ := Option.bind_eq_some_iff.mp en
      obtain ⟨a, ts, e1, h1, r1⟩ := asQ_ok sr.mem h e2
      rw [ints_ok r1 e3] at h1
      subst e1
      obtain ⟨hz, q⟩ := PostG.when q
      exact ⟨a, ns, e, h1, hz, fun m hm hl => by rw [← maxI_of hm hl]; exact PostG.ok (Wx := Wx) (Rel := RelW K ct) (a := W.int _) sr rfl q⟩
    · exact q.elim
  · exact q.elim
theorem valMin : CValR K ct Wx (rMin K) fMin := by
  intro S φ H ρ M σ ws vs Q sr r q
  unfold fMin at q
  split at q
  · obtain ⟨v, e, h⟩ := one_of r
    split at q
    · rename_i ns en
      obtain ⟨us, e2, e3⟩ := Option.bind_eq_some_iff.mp en
      obtain ⟨a, ts, e1, h1, r1⟩ := asQ_ok sr.mem h e2
      rw [ints_ok r1 e3] at h1
      subst e1
      obtain ⟨hz, q⟩ := PostG.when q
      exact ⟨a, ns, e, h1, hz, fun m hm hl => by rw [← minI_of hm hl]; exact PostG.ok (Wx := Wx) (Rel := RelW K ct) (a := W.int _) sr rfl q⟩
    · exact q.elim
  · exact q.elim
end
section
variable {X : Cx} {ct : CT} {Wx : WX} {pos p : Pos} {e : Expr} {es : List Expr} {d : DEn} {da : DAn}
theorem de_len (hg : Gl X "len") (hm : X.mg "len" = none) (ha : DA X ct Wx (e :: es) da) (he : starEach (e :: es) X.env = (false, eval e X.env) :: starEach es X.env := by rfl) (hpl : (backTo pos (starEach es X.env)).any (·.1) = false := by rfl) :
    DE X ct Wx (.Call (.Name "len" p) (e :: es) [] pos) (dCall fLen da) := de_callB call_len valLen hg hm PySem.boot_len ha (by decide) (by decide) he hpl
theorem de_max2 (hc : X.calm = true) (hg : Gl X "max") (hm : X.mg "max" = none) (ha : DA X ct Wx (e :: es) da) (he : starEach (e :: es) X.env = (false, eval e X.env) :: starEach es X.env := by rfl) (hpl : (backTo pos (starEach es X.env)).any (·.1) = false := by rfl) :
    DE X ct Wx (.Call (.Name "max" p) (e :: es) [] pos) (dCall fMax2 da) := de_callB (call_max2 hc) valMax2 hg hm (by decide +kernel) ha (by decide) (by decide) he hpl
theorem de_min2 (hc : X.calm = true) (hg : Gl X "min") (hm : X.mg "min" = none) (ha : DA X ct Wx (e :: es) da) (he : starEach (e :: es) X.env = (false, eval e X.env) :: starEach es X.env := by rfl) (hpl : (backTo pos (starEach es X.env)).any (·.1) = false := by rfl) :
    DE X ct Wx (.Call (.Name "min" p) (e :: es) [] pos) (dCall fMin2 da) := de_callB (call_min2 hc) valMin2 hg hm (by decide +kernel) ha (by decide) (by decide) he hpl
theorem de_maxL (hc : X.calm = true) (hg : Gl X "max") (hm : X.mg "max" = none) (ha : DA X ct Wx (e :: es) da) (he : starEach (e :: es) X.env = (false, eval e X.env) :: starEach es X.env := by rfl) (hpl : (backTo pos (starEach es X.env)).any (·.1) = false := by rfl) :
    DE X ct Wx (.Call (.Name "max" p) (e :: es) [] pos) (dCall fMax da) := de_callB (cr_max hc) valMax hg hm (by decide +kernel) ha (by decide) (by decide) he hpl
theorem de_minL (hc : X.calm = true) (hg : Gl X "min") (hm : X.mg "min" = none) (ha : DA X ct Wx (e :: es) da) (he : starEach (e :: es) X.env = (false, eval e X.env) :: starEach es X.env := by rfl) (hpl : (backTo pos (starEach es X.env)).any (·.1) = false := by rfl) :
    DE X ct Wx (.Call (.Name "min" p) (e :: es) [] pos) (dCall fMin da) := de_callB (cr_min hc) valMin hg hm (by decide +kernel) ha (by decide) (by decide) he hpl
theorem de_sum (hc : X.calm = true) (hg : Gl X "sum") (hm : X.mg "sum" = none) (ha : DA X ct Wx (e :: es) da) (he : starEach (e :: es) X.env = (false, eval e X.env) :: starEach es X.env := by rfl) (hpl : (backTo pos (starEach es X.env)).any (·.1) = false := by rfl) :
    DE X ct Wx (.Call (.Name "sum" p) (e :: es) [] pos) (dCall fSum da) := de_callB (cr_sum hc) valSum hg hm (by decide +kernel) ha (by decide) (by decide) he hpl
theorem de_all (hc : X.calm = true) (hg : Gl X "all") (hm : X.mg "all" = none) (ha : DA X ct Wx (e :: es) da) (he : starEach (e :: es) X.env = (false, eval e X.env) :: starEach es X.env := by rfl) (hpl : (backTo pos (starEach es X.env)).any (·.1) = false := by rfl) :
    DE X ct Wx (.Call (.Name "all" p) (e :: es) [] pos) (dCall fAll da) := de_callB (cr_all hc) valAll hg hm (by decide +kernel) ha (by decide) (by decide) he hpl
theorem de_int1 (hg : Gl X "int") (hm : X.mg "int" = none) (ha : DA X ct Wx (e :: es) da) (he : starEach (e :: es) X.env = (false, eval e X.env) :: starEach es X.env := by rfl) (hpl : (backTo pos (starEach es X.env)).any (·.1) = false := by rfl) :
    DE X ct Wx (.Call (.Name "int" p) (e :: es) [] pos) (dCall fInt da) := de_callTy call_int1 valInt hg hm (by decide +kernel) ha (by decide) (by decide) he hpl
theorem de_tuple (hg : Gl X "tuple") (hm : X.mg "tuple" = none) (ha : DA X ct Wx (e :: es) da) (he : starEach (e :: es) X.env = (false, eval e X.env) :: starEach es X.env := by rfl) (hpl : (backTo pos (starEach es X.env)).any (·.1) = false := by rfl) :
    DE X ct Wx (.Call (.Name "tuple" p) (e :: es) [] pos) (dCall fTuple da) := de_callTy call_tuple_of valTuple hg hm (by decide +kernel) ha (by decide) (by decide) he hpl
theorem dl_list (hg : Gl X "list") (hm : X.mg "list" = none) (ha : DA X ct Wx (e :: es) da) (he : starEach (e :: es) X.env = (false, eval e X.env) :: starEach es X.env := by rfl) (hpl : (backTo pos (starEach es X.env)).any (·.1) = false := by rfl) :
    DL X ct Wx (.Call (.Name "list" p) (e :: es) [] pos) (fun ρ M => (da ρ M).bind fList) := dl_callTy call_list_of valList hg hm (by decide +kernel) ha (by decide) (by decide) he hpl
end
end LP

namespace LP
open PySem PySem.Spec L2

/-! ### defs -/
abbrev FnD := List W → Mem → Res W
/-- a def's promise by its function -/
def spD (K : PySem.W.Frag) (ct : CT) (n : Nat) (F : FnD) : Sp := fun vs H Q E => vs.length = n ∧ ∃ S φ M ws, RVs K ct S φ H ws vs ∧ RM K ct S φ H M ∧ match F ws M with
  | .ok w M' => ∀ φ' H' v, Le φ H φ' H' → RM K ct S φ' H' M' → RV K ct S φ' H' w v → Q v H'
  | .exc c e M' => ∀ φ' H' cls d, Le φ H φ' H' → RM K ct S φ' H' M' → XR ct H' c e cls d → E cls d H'
  | .bad => False
def startR (n : Nat) (ws : List W) : Rho := ws.map some ++ List.replicate (n - ws.length) none
def SRes.fin (r : SRes) : Res W := match r with
  | .nx _ M => .ok .non M
  | .rt w M => .ok w M
  | .exc c e _ M => .exc c e M
  | _ => .bad
/-- a body run on arguments: n slots -/
def runD (n : Nat) (b : DSn) : FnD := fun ws M => (b (startR n ws) M).fin
theorem start_sr {K : PySem.W.Frag} {ct : CT} {S : Addr → Prop} {φ : List Addr} {H : Hp} {M : Mem} {N : List Str} {ws : List W} {vs : List V} (r : RVs K ct S φ H ws vs) (m : RM K ct S φ H M) : SR K ct S φ H (startR N.length ws) M (L2.start N vs) := by
  have hl := RVs.length r
  refine ⟨by simp [startR, L2.start, hl], fun i w h => ?_, m⟩
  unfold startR at h
  by_cases hi : i < ws.length
  · rw [List.getElem?_append_left (by simpa using hi), List.getElem?_map] at h
    obtain ⟨w', h1, h2⟩ := Option.map_eq_some_iff.mp h
    cases h2
    obtain ⟨v, h3, h4⟩ := RVs.get r h1
    refine ⟨v, ?_, h4⟩
    unfold L2.start
    rw [List.getElem?_append_left (by simp; omega), List.getElem?_map, h3]
    rfl
  · rw [List.getElem?_append_right (by simpa using hi)] at h
    have := List.mem_of_getElem? h
    have := List.eq_of_mem_replicate this
    cases this
section
variable {P : Program} {w : World} {K : PySem.W.Frag} {mg : Str → Option Value} {base : Heap}
/-- the wish of a def's body about exceptions -/
abbrev WxE (E : XK) : WX := fun cls d _ H => E cls d H
/-- THE RULE for a def -/
theorem fn_okD {ct : CT} {x qual : Str} {st : Stmt} {f : Addr} {fd : FuncData} {N ps : List Str} {k : Nat} {b : DSn} (F : Fun K x qual st f fd) (S : FnScope N ps (defScope st))
    (hbody : ∀ (cdv : Value) (A : Around) (outer : List Env) (s : Shared) (H : Hp) (E : XK), Room k (A.deeper (PyProof.Rows.envOfC qual (defScope st) s.heap.objs.size f cdv)) →
      DSs (cxOf (L2.CX P w) P w K mg base N qual (defScope st) f cdv A outer s H E) ct (WxE E) (defBody st) b) : FnOk P w K mg base (L2.CX P w) (k + 1) f fd ps (spD K ct ps.length (runD N.length b)) := by
  refine F.okX S (fun vs H Q E h => h.1) fun cdv A outer s H vs Q E hr h => ⟨_, (hbody cdv A outer s H E hr).pss, ?_⟩
  obtain ⟨_, S', φ, M, ws, r, m, q⟩ := h
  refine ⟨S', φ, _, M, start_sr r m, ?_⟩
  have q : match (b (startR N.length ws) M).fin with
    | .ok w M' => ∀ φ' H' v, Le φ H φ' H' → RM K ct S' φ' H' M' → RV K ct S' φ' H' w v → Q v H'
    | .exc c e M' => ∀ φ' H' cls d, Le φ H φ' H' → RM K ct S' φ' H' M' → XR ct H' c e cls d → E cls d H'
    | .bad => False := q
  cases e : b (startR N.length ws) M with
  | nx ρ M' =>
    rw [e] at q
    exact fun φ' σ' H' l sr => q φ' H' .non l sr.mem rfl
  | rt w M' =>
    rw [e] at q
    exact fun φ' H' v l rm rv => q φ' H' v l rm rv
  | exc c e' ρ M' =>
    rw [e] at q
    exact fun φ' σ' H' cls d l sr x => q φ' H' cls d l sr.mem x
  | bk ρ M' =>
    rw [e] at q
    exact q.elim
  | ct ρ M' =>
    rw [e] at q
    exact q.elim
  | bad =>
    rw [e] at q
    exact q.elim
end

/-! ### calls -/
section
variable {X : Cx} {ct : CT} {Wx : WX} {k n m : Nat} {f : Addr} {fd : FuncData} {ps : List Str} {F : FnD} {x : Str} {p pos : Pos} {e : Expr} {es : List Expr} {da : DAn}
/-- with the caller's own cells -/
theorem de_call (G : FnOk X.prog X.w X.K X.mg X.base (L2.CX X.prog X.w) k f fd ps (spD X.K ct m F)) (hr : Room k X.A) (hg : Gl X x) (hm : X.mg x = some (.ref f)) (hk : PySem.W.keepIn X.K (.ref f) = true) (hb : Binds X.K fd ps []) (tk : Takes X Wx)
    (ha : DA X ct Wx (e :: es) da) (hdb : (x == ("__debug__" : Str)) = false := by decide) (he : starEach (e :: es) X.env = (false, eval e X.env) :: starEach es X.env := by rfl) (hpl : (backTo pos (starEach es X.env)).any (·.1) = false := by rfl) :
    DE X ct Wx (.Call (.Name x p) (e :: es) [] pos) (dCall (fun ws M => if ws.length = m then F ws M else .bad) da) := by
  refine ⟨PE.imp (pe_callS G hr hg hm hk hb (fun σ => passAt tk σ) ha.pa hdb he hpl) fun σ H Q ⟨S, φ, ρ, M, sr, q⟩ => ⟨S, φ, ρ, M, sr, PostG.bind q fun φ1 H1 M1 ws vs l1 sr1 r1 q1 => ?_⟩⟩
  split at q1
  · rename_i hw
    refine ⟨by rw [← RVs.length r1]; exact hw, S, φ1, M1, ws, r1, sr1.mem, ?_⟩
    cases e' : F ws M1 with
    | ok w M' =>
      rw [e'] at q1
      exact fun φ' H' v l rm rv => q1 φ' H' v l ⟨sr1.len, fun i w h => let ⟨v, h1, h2⟩ := sr1.slot i w h; ⟨v, h1, RV.mono l _ _ h2⟩, rm⟩ rv
    | exc c i M' =>
      rw [e'] at q1
      exact fun φ' H' cls d l rm x => q1 φ' H' cls d l ⟨sr1.len, fun i w h => let ⟨v, h1, h2⟩ := sr1.slot i w h; ⟨v, h1, RV.mono l _ _ h2⟩, rm⟩ x
    | bad =>
      rw [e'] at q1
      exact q1
  · exact q1.elim

-- locations replaced by what they hold
mutual
def mapLoc (f : Nat → Option W) : W → Option W
  | .tup ws => match mapLocs f ws with | some us => some (.tup us) | none => none
  | .lst ws => match mapLocs f ws with | some us => some (.lst us) | none => none
  | .fro ws => match mapLocs f ws with | some us => some (.fro us) | none => none
  | .obj c ks ws => match mapLocs f ws with | some us => some (.obj c ks us) | none => none
  | .loc n => f n
  | .non => some .non
  | .bl b => some (.bl b)
  | .int i => some (.int i)
  | .str x => some (.str x)
def mapLocs (f : Nat → Option W) : List W → Option (List W)
  | [] => some []
  | w :: ws => match mapLoc f w, mapLocs f ws with
    | some u, some us => some (u :: us)
    | _, _ => none
end
def locRes : Nat → Mem → Nat → Option W
  | 0, _, _ => none
  | n + 1, M, i => match M[i]? with
    | some (.lst ws) => (match mapLocs (locRes n M) ws with | some us => some (.lst us) | none => none)
    | some (.ins c ks ws) => (match mapLocs (locRes n M) ws with | some us => some (.obj c ks us) | none => none)
    | _ => none
mutual
theorem mapLoc_lf (f : Nat → Option W) : ∀ w, lf w = true → mapLoc f w = some w
  | .non, _ => rfl
  | .bl _, _ => rfl
  | .int _, _ => rfl
  | .str _, _ => rfl
  | .tup ws, h => by simp only [mapLoc]; rw [mapLocs_lf f ws h]
  | .lst ws, h => by simp only [mapLoc]; rw [mapLocs_lf f ws h]
  | .fro ws, h => by simp only [mapLoc]; rw [mapLocs_lf f ws h]
  | .obj c ks ws, h => by simp only [mapLoc]; rw [mapLocs_lf f ws h]
  | .loc n, h => absurd (show false = true from h) Bool.false_ne_true
theorem mapLocs_lf (f : Nat → Option W) : ∀ ws, lfs ws = true → mapLocs f ws = some ws
  | [], _ => rfl
  | w :: ws, h => by
    have h' : (lf w && lfs ws) = true := h
    rw [Bool.and_eq_true] at h'
    simp only [mapLocs]
    rw [mapLoc_lf f w h'.1, mapLocs_lf f ws h'.2]
end
/-- a value handed out of a call: its cells become values -/
def reify (M : Mem) (w : W) : Option W := mapLoc (locRes 8 M) w
section
variable {K : PySem.W.Frag} {S S' : Addr → Prop} {φ φ' : List Addr} {H : Hp}
mutual
theorem RV.reloc {g : Nat → Option W} (hi : ∀ a, H a ≠ none → Im S' φ' a → Im S φ a) (hg : ∀ n w a, g n = some w → φ'[n]? = some a → RV K ct S φ H w (.ref a)) : ∀ (w u : W) (v : V), mapLoc g w = some u → RV K ct S' φ' H w v → RV K ct S φ H u v
  | .non, _, _, e, h => by cases e; exact h
  | .bl _, _, _, e, h => by cases e; exact h
  | .int _, _, _, e, h => by cases e; exact h
  | .str _, _, _, e, h => by cases e; exact h
  | .tup ws, _, _, e, ⟨a, vs, e1, h, r⟩ => by
    simp only [mapLoc] at e
    split at e
    · rename_i us eu
      cases e
      exact ⟨a, vs, e1, h.imp (fun q => ⟨q.1, hi a (Rd.some q.1) q.2⟩) _root_.id, RVs.reloc hi hg ws us vs eu r⟩
    · cases e
  | .lst ws, _, _, e, ⟨a, vs, e1, h, r⟩ => by
    simp only [mapLoc] at e
    split at e
    · rename_i us eu
      cases e
      exact ⟨a, vs, e1, ⟨h.1, hi a (by rw [h.1]; simp) h.2⟩, RVs.reloc hi hg ws us vs eu r⟩
    · cases e
  | .fro ws, _, _, e, ⟨a, vs, e1, h, r⟩ => by
    simp only [mapLoc] at e
    split at e
    · rename_i us eu
      cases e
      exact ⟨a, vs, e1, h.imp (fun q => ⟨q.1, hi a (Rd.some q.1) q.2⟩) _root_.id, RVs.reloc hi hg ws us vs eu r⟩
    · cases e
  | .obj c ks ws, _, _, e, ⟨a, C, dx, fs, e1, h, r⟩ => by
    simp only [mapLoc] at e
    split at e
    · rename_i us eu
      cases e
      exact ⟨a, C, dx, fs, e1, ⟨h.1, hi a (by rw [h.1]; simp) h.2.1, h.2.2⟩, RVs.reloc hi hg ws us _ eu r⟩
    · cases e
  | .loc n, _, _, e, ⟨a, e1, h⟩ => by
    rw [e1]
    exact hg n _ a e h
theorem RVs.reloc {g : Nat → Option W} (hi : ∀ a, H a ≠ none → Im S' φ' a → Im S φ a) (hg : ∀ n w a, g n = some w → φ'[n]? = some a → RV K ct S φ H w (.ref a)) : ∀ (ws us : List W) (vs : List V), mapLocs g ws = some us → RVs K ct S' φ' H ws vs → RVs K ct S φ H us vs
  | [], _, _, e, h => by cases e; exact h
  | w :: ws, _, _, e, ⟨v, r, e1, h, q⟩ => by
    simp only [mapLocs] at e
    split at e
    · rename_i u us e2 e3
      cases e
      exact ⟨v, r, e1, RV.reloc hi hg w u v e2 h, RVs.reloc hi hg ws us r e3 q⟩
    · cases e
end
theorem locRes_ok {M : Mem} (m : RM K ct S' φ' H M) (hi : ∀ a, H a ≠ none → Im S' φ' a → Im S φ a) (ho : ∀ a ∈ φ', Im S φ a) : ∀ (k n : Nat) (w : W) (a : Addr), locRes k M n = some w → φ'[n]? = some a → RV K ct S φ H w (.ref a) := by
  intro k
  induction k with
  | zero => intro n w a e; cases e
  | succ k ih =>
    intro n w a e ha
    unfold locRes at e
    split at e
    · rename_i ws em
      split at e
      · rename_i us eu
        cases e
        obtain ⟨vs, h1, h2⟩ := m.cell n _ a em ha
        exact ⟨a, vs, rfl, ⟨h1, ho a (List.mem_of_getElem? ha)⟩, RVs.reloc hi ih ws us vs eu h2⟩
      · cases e
    · rename_i c ks ws em
      split at e
      · rename_i us eu
        cases e
        obtain ⟨C, dx, fs, h1, h2, h3, h4⟩ := m.cell n _ a em ha
        exact ⟨a, C, dx, fs, rfl, ⟨h1, ho a (List.mem_of_getElem? ha), h2, h3⟩, RVs.reloc hi ih ws us _ eu h4⟩
      · cases e
    · cases e
end
/-- what a call may touch: nothing of the caller's -/
theorem RM.shut {K : PySem.W.Frag} {S : Addr → Prop} {φ : List Addr} {H : Hp} {M : Mem} (m : RM K ct S φ H M) : RM K ct (fun a => S a ∨ a ∈ φ) [] H [] :=
  ⟨rfl, List.nodup_nil, fun a h => h.elim (m.liveS a) (m.live a), fun _ h => (nomatch h), fun _ h => (nomatch h), fun _ _ _ h => (by simp at h)⟩
theorem Im.shut {S : Addr → Prop} {φ : List Addr} {a : Addr} (h : Im S φ a) : Im (fun a => S a ∨ a ∈ φ) [] a := ⟨fun z => z.elim h.1 h.2, fun z => nomatch z⟩
theorem Im.open {S : Addr → Prop} {φ φ' : List Addr} {a : Addr} (h : Im (fun a => S a ∨ a ∈ φ) φ' a) : Im S φ a := ⟨fun z => h.1 (.inl z), fun z => h.1 (.inr z)⟩
/-- behind it -/
theorem Le.shut {φ2 : List Addr} {H H2 : Hp} (l : Le [] H φ2 H2) (φ1 : List Addr) : Le φ1 H φ1 H2 := ⟨⟨[], by simp⟩, fun a o h _ => l.keep a o h (fun z => nomatch z), l.live, fun _ _ z => z⟩
theorem SR.shut {K : PySem.W.Frag} {S : Addr → Prop} {φ φ2 : List Addr} {H H2 : Hp} {ρ : Rho} {M : Mem} {σ : L2.St} (r : SR K ct S φ H ρ M σ) (l : Le [] H φ2 H2) : SR K ct S φ H2 ρ M σ := by
  have l' : Le φ H φ H2 := l.shut φ
  refine ⟨r.len, fun i w h => let ⟨v, h1, h2⟩ := r.slot i w h; ⟨v, h1, RV.mono l' _ _ h2⟩, ⟨r.mem.len, r.mem.nd, fun a h => l.live a (r.mem.liveS a h), r.mem.disj, fun a h => l.live a (r.mem.live a h), fun n c a h1 h2 => (r.mem.cell n c a h1 h2).mono l' ?_⟩⟩
  cases e : H a with
  | none => exact absurd e (r.mem.live a (List.mem_of_getElem? h2))
  | some o => exact l.keep a o e (fun z => nomatch z)
/-- a call of a def that only gets values, and hands back a value -/
def callP (n : Nat) (F : FnD) (ws : List W) (M : Mem) : Res W := if ws.length = n ∧ lfs ws = true then (match F ws [] with
  | .ok w M' => (match reify M' w with
    | some u => .ok u M
    | none => .bad)
  | .exc c e _ => .exc c e M
  | .bad => .bad) else .bad
theorem spD_pure {K : PySem.W.Frag} {S : Addr → Prop} {φ : List Addr} {H : Hp} {ρ : Rho} {M : Mem} {σ : L2.St} {ws : List W} {vs : List V} {Q : VK} {n : Nat} (sr : SR K ct S φ H ρ M σ) (r : RVs K ct S φ H ws vs)
    (q : PostG K ct Wx (RelW K ct) S φ H ρ σ (callP n F ws M) Q) : spD K ct n F vs H Q (WE Wx σ) := by
  unfold callP at q
  split at q
  · rename_i hw
    refine ⟨by rw [← RVs.length r]; exact hw.1, _, [], [], ws, RVs.own (fun a _ h => Im.shut h) ws vs hw.2 r, sr.mem.shut, ?_⟩
    cases e' : F ws [] with
    | ok w M' =>
      rw [e'] at q
      dsimp only at q
      intro φ2 H2 v l rm rv
      have l' : Le φ H φ H2 := l.shut φ
      split at q
      · rename_i u eu
        refine q φ H2 v l' (sr.shut l) (RV.reloc (fun a _ h => Im.open h) (fun k w a e1 e2 => locRes_ok rm (fun a _ h => Im.open h) (fun a ha => ?_) 8 k w a e1 e2) w u v eu rv)
        have hn : H a = none := by
          cases e2 : H a with
          | none => rfl
          | some o => exact absurd (l.new a (by rw [e2]; simp) ha) (fun z => nomatch z)
        exact ⟨fun z => sr.mem.liveS a z hn, fun z => sr.mem.live a z hn⟩
      · exact q.elim
    | exc c i M' =>
      rw [e'] at q
      exact fun φ2 H2 cls d l rm x => q φ H2 cls d (l.shut φ) (sr.shut l) x
    | bad =>
      rw [e'] at q
      exact q
  · exact q.elim
theorem de_callP (G : FnOk X.prog X.w X.K X.mg X.base (L2.CX X.prog X.w) k f fd ps (spD X.K ct m F)) (hr : Room k X.A) (hg : Gl X x) (hm : X.mg x = some (.ref f)) (hk : PySem.W.keepIn X.K (.ref f) = true) (hb : Binds X.K fd ps []) (tk : Takes X Wx)
    (ha : DA X ct Wx (e :: es) da) (hdb : (x == ("__debug__" : Str)) = false := by decide) (he : starEach (e :: es) X.env = (false, eval e X.env) :: starEach es X.env := by rfl) (hpl : (backTo pos (starEach es X.env)).any (·.1) = false := by rfl) :
    DE X ct Wx (.Call (.Name x p) (e :: es) [] pos) (dCall (callP m F) da) :=
  ⟨PE.imp (pe_callS G hr hg hm hk hb (fun σ => passAt tk σ) ha.pa hdb he hpl) fun σ H Q ⟨S, φ, ρ, M, sr, q⟩ => ⟨S, φ, ρ, M, sr, PostG.bind q fun φ1 H1 M1 ws vs l1 sr1 r1 q1 => spD_pure sr1 r1 q1⟩⟩
/-- .. that hands back a new list of values, as a cell -/
def callF (n : Nat) (F : FnD) (ws : List W) (M : Mem) : Res W := if ws.length = n ∧ lfs ws = true then (match F ws [] with
  | .ok (.loc i) M' => (match cellL M'[i]? with
    | some us => if lfs us = true then .ok (.loc M.length) (M ++ [.lst us]) else .bad
    | none => .bad)
  | .exc c e _ => .exc c e M
  | _ => .bad) else .bad
theorem spD_fresh {K : PySem.W.Frag} {S : Addr → Prop} {φ : List Addr} {H : Hp} {ρ : Rho} {M : Mem} {σ : L2.St} {ws : List W} {vs : List V} {Q : VK} {n : Nat} (sr : SR K ct S φ H ρ M σ) (r : RVs K ct S φ H ws vs)
    (q : PostG K ct Wx (RelW K ct) S φ H ρ σ (callF n F ws M) Q) : spD K ct n F vs H Q (WE Wx σ) := by
  unfold callF at q
  split at q
  · rename_i hw
    refine ⟨by rw [← RVs.length r]; exact hw.1, _, [], [], ws, RVs.own (fun a _ h => Im.shut h) ws vs hw.2 r, sr.mem.shut, ?_⟩
    cases e' : F ws [] with
    | ok w M' =>
      rw [e'] at q
      intro φ2 H2 v l rm rv
      cases w with
      | loc i =>
        dsimp only at q
        split at q
        · rename_i us eu
          split at q
          · rename_i hl
            obtain ⟨p, ev, hp⟩ := rv
            obtain ⟨ts, h1, h2⟩ := rm.cell i _ p (cellL_ok eu) hp
            have hpm := List.mem_of_getElem? hp
            have hn : H p = none := by
              cases e2 : H p with
              | none => rfl
              | some o => exact absurd (l.new p (by rw [e2]; simp) hpm) (fun z => nomatch z)
            have l1 : Le φ H (φ ++ [p]) H2 := by
              refine ⟨⟨[p], rfl⟩, fun a o h _ => l.keep a o h (fun z => nomatch z), l.live, fun a h m => ?_⟩
              rcases List.mem_append.mp m with m | m
              · exact m
              · rw [List.mem_singleton.mp m] at h
                exact absurd hn h
            have sr2 := sr.shut l
            have f1 : p ∉ φ := fun z => sr.mem.live p z hn
            have f2 : ¬ S p := fun z => sr.mem.liveS p z hn
            have rc : RVs K ct S (φ ++ [p]) H2 us ts := RVs.own (fun a ha h => ⟨fun z => h.1 (.inl z), fun z => (List.mem_append.mp z).elim (fun z => h.1 (.inr z)) fun z => h.2 (by rw [List.mem_singleton.mp z]; exact hpm)⟩) us ts hl h2
            have rm2 : RM K ct S (φ ++ [p]) H2 (M ++ [.lst us]) := by
              refine ⟨by rw [List.length_append, List.length_append, sr.mem.len]; rfl, ?_, sr2.mem.liveS, fun a h => ?_, fun a h => ?_, fun n d a h3 h4 => ?_⟩
              · rw [List.nodup_append]
                exact ⟨sr.mem.nd, by simp, fun a h b h' e => f1 (by rw [← List.mem_singleton.mp h', ← e]; exact h)⟩
              · rcases List.mem_append.mp h with h | h
                · exact sr.mem.disj a h
                · rw [List.mem_singleton.mp h]; exact f2
              · rcases List.mem_append.mp h with h | h
                · exact sr2.mem.live a h
                · rw [List.mem_singleton.mp h, h1]; simp
              · by_cases hn' : n < M.length
                · rw [List.getElem?_append_left hn'] at h3
                  rw [List.getElem?_append_left (by rw [sr.mem.len]; exact hn')] at h4
                  refine (sr.mem.cell n d a h3 h4).mono l1 ?_
                  cases e : H a with
                  | none => exact absurd e (sr.mem.live a (List.mem_of_getElem? h4))
                  | some o => exact l.keep a o e (fun z => nomatch z)
                · have hn2 : n = M.length := by
                    have := (List.getElem?_eq_some_iff.mp h3).1
                    rw [List.length_append] at this
                    simp at this
                    omega
                  subst hn2
                  rw [← sr.mem.len, List.getElem?_append_right (Nat.le_refl _)] at h4
                  rw [List.getElem?_append_right (Nat.le_refl _)] at h3
                  simp at h3 h4
                  subst h3 h4
                  exact ⟨ts, h1, rc⟩
            refine q (φ ++ [p]) H2 v l1 ⟨sr.len, fun i w h => let ⟨v, h1, h2⟩ := sr.slot i w h; ⟨v, h1, RV.mono l1 _ _ h2⟩, rm2⟩ ⟨p, ev, ?_⟩
            rw [← sr.mem.len, List.getElem?_append_right (Nat.le_refl _)]
            simp
          · exact q.elim
        · exact q.elim
      | _ => exact q.elim
    | exc c i M' =>
      rw [e'] at q
      exact fun φ2 H2 cls d l rm x => q φ H2 cls d (l.shut φ) (sr.shut l) x
    | bad =>
      rw [e'] at q
      exact q
  · exact q.elim
theorem de_callF (G : FnOk X.prog X.w X.K X.mg X.base (L2.CX X.prog X.w) k f fd ps (spD X.K ct m F)) (hr : Room k X.A) (hg : Gl X x) (hm : X.mg x = some (.ref f)) (hk : PySem.W.keepIn X.K (.ref f) = true) (hb : Binds X.K fd ps []) (tk : Takes X Wx)
    (ha : DA X ct Wx (e :: es) da) (hdb : (x == ("__debug__" : Str)) = false := by decide) (he : starEach (e :: es) X.env = (false, eval e X.env) :: starEach es X.env := by rfl) (hpl : (backTo pos (starEach es X.env)).any (·.1) = false := by rfl) :
    DE X ct Wx (.Call (.Name x p) (e :: es) [] pos) (dCall (callF m F) da) :=
  ⟨PE.imp (pe_callS G hr hg hm hk hb (fun σ => passAt tk σ) ha.pa hdb he hpl) fun σ H Q ⟨S, φ, ρ, M, sr, q⟩ => ⟨S, φ, ρ, M, sr, PostG.bind q fun φ1 H1 M1 ws vs l1 sr1 r1 q1 => spD_fresh sr1 r1 q1⟩⟩
end
end LP

namespace LP
open PySem PySem.Spec L2

/-! ### isinstance by a built-in type -/
inductive Tg where
  | non | bl | int | str | tup | lst
  deriving DecidableEq
def Tg.name : Tg → String
  | .non => "NoneType"
  | .bl => "bool"
  | .int => "int"
  | .str => "str"
  | .tup => "tuple"
  | .lst => "list"
/-- a value's type -/
def tagW (M : Mem) : W → Option Tg
  | .non => some .non
  | .bl _ => some .bl
  | .int _ => some .int
  | .str _ => some .str
  | .tup _ => some .tup
  | .lst _ => some .lst
  | .fro _ => some .lst
  | .obj _ _ _ => none
  | .loc n => (cellL M[n]?).map fun _ => .lst
def instT : Tg → Tg → Bool
  | .bl, .int => true
  | a, b => decide (a = b)
theorem instT_ok (a b : Tg) : kitB a.name b.name = some (instT a b) := by
  cases a <;> cases b <;> decide +kernel
theorem tagW_ok {K : PySem.W.Frag} {ct : CT} {S : Addr → Prop} {φ : List Addr} {H : Hp} {M : Mem} (m : RM K ct S φ H M) {w : W} {v : V} {t : Tg} (h : RV K ct S φ H w v) (e : tagW M w = some t) : TyX K H v (.type t.name) := by
  cases w with
  | non => cases h; cases e; exact .base .non
  | bl b => cases h; cases e; exact .base (.bl b)
  | int b => cases h; cases e; exact .base (.int b)
  | str b => cases h; cases e; exact .base (.str b)
  | tup b =>
    obtain ⟨a, vs, e1, h1, _⟩ := h
    cases e
    rw [e1]
    rcases h1 with ⟨h1 | ⟨o, h1⟩, _⟩ | ⟨o, its, n, h1, h2, _⟩
    · exact .base (.tup h1)
    · exact .fTuple h1
    · exact .kTuple h1 h2
  | lst b =>
    obtain ⟨a, vs, e1, h1, _⟩ := h
    cases e
    rw [e1]
    exact .base (.lst h1.1)
  | fro b =>
    obtain ⟨a, vs, e1, h1, _⟩ := h
    cases e
    rw [e1]
    rcases h1 with ⟨h1 | ⟨o, h1⟩, _⟩ | ⟨o, its, n, h1, h2, _⟩
    · exact .base (.lst h1)
    · exact .base (.frz h1)
    · exact .kList h1 h2
  | obj _ _ _ => cases e
  | loc n =>
    have e : (cellL M[n]?).map (fun _ => Tg.lst) = some t := e
    obtain ⟨ws, ew, et⟩ := Option.map_eq_some_iff.mp e
    cases et
    obtain ⟨a, vs, e1, h1, _⟩ := asL_ok m h (w := .loc n) ew
    rw [e1]
    exact .base (.lst h1)
def dIsT (t : Tg) (d : DEn) : DEn := fun ρ M => (d ρ M).bind fun w M1 => match tagW M1 w with
  | some s => .ok (.bl (instT s t)) M1
  | none => .bad
section
variable {X : Cx} {ct : CT} {Wx : WX} {pos p p2 : Pos} {e : Expr} {d : DEn}
theorem de_isT (t : Tg) {x : Str} (hg : Gl X "isinstance") (hm : X.mg "isinstance" = none) (hgT : Gl X x) (hmT : X.mg x = none) (hbT : bootBuiltins x = some (.type t.name)) (he : DE X ct Wx e d)
    (hs1 : starEach [e, .Name x p2] X.env = (false, eval e X.env) :: starEach [.Name x p2] X.env := by rfl) (hs2 : starEach [.Name x p2] X.env = (false, eval (.Name x p2) X.env) :: starEach [] X.env := by rfl)
    (hpl : (backTo pos (starEach [.Name x p2] X.env)).any (·.1) = false := by rfl) (hn : x ≠ "__name__" := by decide) (hdb : (x == ("__debug__" : Str)) = false := by decide) :
    DE X ct Wx (.Call (.Name "isinstance" p) [e, .Name x p2] [] pos) (dIsT t d) := by
  have pT : PE X (.Name x p2) (tC (.ty t.name)) := pe_bltn hgT hmT hbT rfl hn hdb
  refine ⟨PE.imp (pe_callB call_isi hg hm (by decide +kernel) (pa_cons he.pe (pa_cons pT pa_nil hs2) hs1) (by decide) (by decide) hs1 hpl) fun σ H Q ⟨S, φ, ρ, M, sr, q⟩ => ⟨S, φ, ρ, M, sr, PostG.bind q fun φ1 H1 M1 w v l1 sr1 r1 q1 => ?_⟩⟩
  split at q1
  · rename_i s es
    exact ⟨v, .ty t.name, .type s.name, .type t.name, instT s t, rfl, .ty _, tagW_ok sr1.mem r1 es, kit_ty (instT_ok s t), PostG.ok (Wx := Wx) (Rel := RelW X.K ct) (a := W.bl _) sr1 rfl q1⟩
  · exact q1.elim
end
end LP

namespace LP
open PySem PySem.Spec L2

/-! ### what is walked: a list, a tuple, a text -/
def iSeq (K : PySem.W.Frag) (tl : TE) : TI := fun σ H R => tl σ H fun x H1 => (∃ a, x = .ref a ∧ (∃ xs, SqL K H1 a xs) ∧ R (Itl K a) H1) ∨ (∃ a, x = .ref a ∧ (∃ xs, SqT K H1 a xs) ∧ R (Itt K a) H1) ∨ ∃ z, x = .str z ∧ R (Its z) H1
section
variable {X : Cx} {tg : Expr}
theorem pi_seq {l : Expr} {tl : TE} (hl : PE X l tl) : PI X tg l (iSeq X.K tl) := by
  refine ⟨fun pins s σ H R I h => ?_⟩
  refine thn (hl.run pins s σ H _ I h) fun v s1 ⟨x, H1, I1, r1, q1⟩ => ?_
  have eval_const : ∀ (t : TE), PE X l t → True := fun _ _ => trivial
  rcases q1 with ⟨a, e, ⟨xs, hq⟩, q⟩ | ⟨a, e, ⟨xs, hq⟩, q⟩ | ⟨z, e, q⟩
  · subst e
    cases r1
    obtain ⟨its, rv, p, hz⟩ := I1.list hq
    refine wpAny_pyIter_list p.isList ?_
    refine ⟨s1.heap.objs.size, [s1.heap.objs.size], _, _, H1, rfl, I1.kept (t' := s1.toks) fun b o e => Heap.get?_push_of_some _ e, turn_list a _, ⟨_, Heap.get?_push_size _ rfl, rfl, rfl⟩, fun b hb => ?_, q⟩
    have e : b = s1.heap.objs.size := by simpa using hb
    subst e
    exact I1.fpOk (Nat.le_refl _) (I1.hok.fresh (Nat.le_refl _))
  · subst e
    cases r1
    obtain ⟨its, rv, p, hz⟩ := I1.tuple hq
    refine wpAny_pyIter_tuple (show s1.heap.IsTuple a its.toArray from p) ?_
    refine ⟨s1.heap.objs.size, [s1.heap.objs.size], _, _, H1, rfl, I1.kept (t' := s1.toks) fun b o e => Heap.get?_push_of_some _ e, turn_tuple a _, ⟨_, Heap.get?_push_size _ rfl, rfl, rfl⟩, fun b hb => ?_, q⟩
    have e : b = s1.heap.objs.size := by simpa using hb
    subst e
    exact I1.fpOk (Nat.le_refl _) (I1.hok.fresh (Nat.le_refl _))
  · subst e
    obtain ⟨t, rfl⟩ := r1
    cases ha : z.cps.all (· < 128)
    · exact PySem.wpAny_pyIter_wide ha (pi_one (tk := s1.toks) I1 _ (turn_str _ z t "str_iterator" (.inr rfl)) ⟨_, Heap.get?_push_size _ rfl, rfl, rfl⟩ q)
    · exact PySem.wpAny_pyIter_ascii ha (pi_one (tk := s1.toks) I1 _ (turn_str _ z t "str_ascii_iterator" (.inl rfl)) ⟨_, Heap.get?_push_size _ rfl, rfl, rfl⟩ q)
end
def seqW : W → Option (List W)
  | .lst ws => some ws
  | .fro ws => some ws
  | .tup ws => some ws
  | .str x => some (x.cps.toList.map fun c => .str ⟨#[c]⟩)
  | _ => none
section
variable {X : Cx} {ct : CT} {Wx : WX} {pos : Pos} {e : Expr} {d : DEn} {tg : Expr}
theorem relI_list {K : PySem.W.Frag} {S : Addr → Prop} {φ : List Addr} {H : Hp} {a : Addr} {vs : List V} {ws : List W} (hk : (Rd H a (.lst vs) ∧ a ∉ φ) ∨ KL K a vs) (rs : RVs K ct S φ H ws vs) : RelI K ct S φ H ws (Itl K a) := by
  intro i S2 φ2 H2 M2 l2 k2 rm
  have hs := l2.seqL hk
  refine ⟨fun w hw => ?_, fun hi => ⟨vs, hs, by rw [hi, RVs.length rs]; exact Nat.le_refl _⟩⟩
  obtain ⟨u, hu, ru⟩ := RVs.get rs hw
  refine ⟨⟨vs, u, hs, hu⟩, fun x H3 y => ?_⟩
  obtain ⟨e3, y⟩ := y
  have := y vs hs
  rw [hu] at this
  cases this
  exact ⟨.inl e3, by rw [e3]; exact RV.mono l2 _ _ (RV.ownL (fun a ha h => ⟨fun z => h.1 (k2 a ha z), h.2⟩) _ _ ru)⟩
theorem relI_tup {K : PySem.W.Frag} {S : Addr → Prop} {φ : List Addr} {H : Hp} {a : Addr} {vs : List V} {ws : List W} (hk : (Rd H a (.tup vs) ∧ a ∉ φ) ∨ KT K a vs) (rs : RVs K ct S φ H ws vs) : RelI K ct S φ H ws (Itt K a) := by
  intro i S2 φ2 H2 M2 l2 k2 rm
  have hs := l2.seqT hk
  refine ⟨fun w hw => ?_, fun hi => ⟨vs, hs, by rw [hi, RVs.length rs]; exact Nat.le_refl _⟩⟩
  obtain ⟨u, hu, ru⟩ := RVs.get rs hw
  refine ⟨⟨vs, u, hs, hu⟩, fun x H3 y => ?_⟩
  obtain ⟨e3, y⟩ := y
  have := y vs hs
  rw [hu] at this
  cases this
  exact ⟨.inl e3, by rw [e3]; exact RV.mono l2 _ _ (RV.ownL (fun a ha h => ⟨fun z => h.1 (k2 a ha z), h.2⟩) _ _ ru)⟩
theorem relI_str {K : PySem.W.Frag} {S : Addr → Prop} {φ : List Addr} {H : Hp} (x : Str) : RelI K ct S φ H (x.cps.toList.map fun c => W.str ⟨#[c]⟩) (Its x) := by
  intro i S2 φ2 H2 M2 l2 k2 rm
  refine ⟨fun w hw => ?_, fun hi => ?_⟩
  · rw [List.getElem?_map] at hw
    obtain ⟨c, hc, ec⟩ := Option.map_eq_some_iff.mp hw
    have hc' : x.cps[i]? = some c := by simpa using hc
    refine ⟨(Array.getElem?_eq_some_iff.mp hc').1, fun y H3 hy => ?_⟩
    obtain ⟨e3, c', h1, h2⟩ := hy
    rw [hc'] at h1
    cases h1
    exact ⟨.inl e3, by rw [h2, ← ec]; exact rfl⟩
  · rw [List.length_map] at hi
    show x.cps.size ≤ i
    rw [hi]
    simp
theorem di_seq (h : DE X ct Wx e d) : DI X ct Wx tg e (dStill seqW d) := by
  refine ⟨PI.imp (pi_seq h.pe) fun σ H R ⟨S, φ, ρ, M, sr, q⟩ => ⟨S, φ, ρ, M, sr, PostG.bind q fun φ1 H1 M1 w v l1 sr1 r1 q1 => ?_⟩⟩
  split at q1
  · rename_i ws ew
    cases w with
    | lst us =>
      cases ew
      obtain ⟨a, vs, e1, h1, h2⟩ := r1
      have hk : (Rd H1 a (.lst vs) ∧ a ∉ φ1) ∨ KL X.K a vs := .inl ⟨.inl h1.1, h1.2.2⟩
      exact .inl ⟨a, e1, ⟨vs, (Le.refl _ _).seqL hk⟩, q1 φ1 H1 _ (Le.refl _ _) sr1 (relI_list hk h2)⟩
    | fro us =>
      cases ew
      obtain ⟨a, vs, e1, h1, h2⟩ := r1
      have hk : (Rd H1 a (.lst vs) ∧ a ∉ φ1) ∨ KL X.K a vs := h1.imp (fun z => ⟨z.1, z.2.2⟩) _root_.id
      exact .inl ⟨a, e1, ⟨vs, (Le.refl _ _).seqL hk⟩, q1 φ1 H1 _ (Le.refl _ _) sr1 (relI_list hk h2)⟩
    | tup us =>
      cases ew
      obtain ⟨a, vs, e1, h1, h2⟩ := r1
      have hk : (Rd H1 a (.tup vs) ∧ a ∉ φ1) ∨ KT X.K a vs := h1.imp (fun z => ⟨z.1, z.2.2⟩) _root_.id
      exact .inr (.inl ⟨a, e1, ⟨vs, (Le.refl _ _).seqT hk⟩, q1 φ1 H1 _ (Le.refl _ _) sr1 (relI_tup hk h2)⟩)
    | str x =>
      cases ew
      exact .inr (.inr ⟨x, r1, q1 φ1 H1 _ (Le.refl _ _) sr1 (relI_str x)⟩)
    | non => cases ew
    | bl _ => cases ew
    | int _ => cases ew
    | obj _ _ _ => cases ew
    | loc _ => cases ew
  · exact q1.elim

/-! ### constants of the module -/
theorem de_glob_int {x : Str} {i : Int} (hm : ∃ t, X.mg x = some (.int i t)) (hg : Gl X x := by rfl) (hd : (x == ("__debug__" : Str)) = false := by decide) : DE X ct Wx (.Name x pos) (dC (.int i)) := by
  obtain ⟨t, hm⟩ := hm
  exact de_con (v := .int i) (pe_glob hg hm ⟨t, rfl⟩ hd) fun _ _ _ => rfl
theorem de_glob_str {x : Str} {z : Str} (hm : ∃ t, X.mg x = some (.str z t)) (hg : Gl X x := by rfl) (hd : (x == ("__debug__" : Str)) = false := by decide) : DE X ct Wx (.Name x pos) (dC (.str z)) := by
  obtain ⟨t, hm⟩ := hm
  exact de_con (v := .str z) (pe_glob hg hm ⟨t, rfl⟩ hd) fun _ _ _ => rfl
end

/-! ### the end -/
theorem fn_bad {P : Program} {w : World} {K : PySem.W.Frag} {mg : Str → Option Value} {base : Heap} {ct : CT} {k n : Nat} {f : Addr} {fd : FuncData} {ps : List Str} (hn : n = ps.length) : FnOk P w K mg base (L2.CX P w) k f fd ps (spD K ct n fun _ _ => .bad) := by
  have no : ∀ vs H Q E, ¬ spD K ct n (fun _ _ => .bad) vs H Q E := fun vs H Q E ⟨_, _, _, _, _, _, _, h⟩ => h
  exact ⟨fun vs H Q E h => absurd h (no vs H Q E), fun A outer s H args us vs Q E _ _ _ _ h => absurd h (no vs H Q E)⟩
/-- a def of the text: the room for its calls, the wishes about exceptions -/
theorem fn_def {P : Program} {w : World} {K : PySem.W.Frag} {mg : Str → Option Value} {base : Heap} {ct : CT} {x qual : Str} {st : Stmt} {f : Addr} {fd : FuncData} {N ps : List Str} {n : Nat} {b : DSn} (F : Fun K x qual st f fd) (S : FnScope N ps (defScope st))
    (hbody : ∀ (cdv : Value) (A : Around) (outer : List Env) (s : Shared) (H : Hp) (E : XK), Room (2 * n + 1) (cxOf (L2.CX P w) P w K mg base N qual (defScope st) f cdv A outer s H E).A → Room (2 * n) (cxOf (L2.CX P w) P w K mg base N qual (defScope st) f cdv A outer s H E).A →
      Takes (cxOf (L2.CX P w) P w K mg base N qual (defScope st) f cdv A outer s H E) (WxE E) → PassesOwn (model P w) (cxOf (L2.CX P w) P w K mg base N qual (defScope st) f cdv A outer s H E).A (cxOf (L2.CX P w) P w K mg base N qual (defScope st) f cdv A outer s H E).env (cxOf (L2.CX P w) P w K mg base N qual (defScope st) f cdv A outer s H E).xe →
      (cxOf (L2.CX P w) P w K mg base N qual (defScope st) f cdv A outer s H E).A.units + 64 < cLine →
      DSs (cxOf (L2.CX P w) P w K mg base N qual (defScope st) f cdv A outer s H E) ct (WxE E) (defBody st) b) : FnOk P w K mg base (L2.CX P w) (2 * (n + 1)) f fd ps (spD K ct ps.length (runD N.length b)) :=
  fn_okD (k := 2 * n + 1) F S fun cdv A outer s H E hr => hbody cdv A outer s H E hr (hr.mono (by omega)) (takes_of rfl rfl rfl rfl) (passes_of (X := cxOf (L2.CX P w) P w K mg base N qual (defScope st) f cdv A outer s H E) rfl) hr.units
/-- the law's row -/
theorem walk_lp {l : PySem.W.OpenLaw} {q : Program} {loose : List Str} {XP : (Str → Option Value) → Heap → Prop} {YP : World → Heap → Prop} {d : DefRec} {K : Params → PySem.W.Frag} {F : FnD} {k : Nat} {x : Str} (hn : l.most = some 63) (hdf : d.params.defaults = []) (hk : Room k callerA)
    (hY : ∀ (w : World) (h : Heap), YP w h → (K w.params).In h)
    (hF : ∀ (w : World) (mg : Str → Option Value) (fa : Addr) (h : Heap), (K w.params).In h → h.Ns mainGlobals mg → mg d.name = some (.ref fa) →
      ∃ (ct : CT) (fd : FuncData), (∀ (s : Shared) (u : Value), BindsTo s fd ⟨[u], []⟩ [(x, u)]) ∧ ∀ base : Heap, (K w.params).In base → base.Ns mainGlobals mg → FnOk l.prog w (K w.params) mg base (L2.CX l.prog w) k fa fd [x] (spD (K w.params) ct 1 F))
    (hlaw : ∀ ns : List Int, ns.length ≤ 63 → ∃ M, F [.fro (ns.map .int)] [] = .ok (.bl true) M) :
    PySem.W.WalkO q loose XP YP l.row.toRowW d [] (fun f vs => PySem.call f vs) := by
  refine L2.walk_of (n := 63) (k := k) (x := x) (CX := fun w => L2.CX l.prog w) (sp := fun w vs H Q E => ∃ (a : Addr) (ns : List Int), vs = [.ref a] ∧ ns.length ≤ 63 ∧ SqL (K w.params) H a (ns.map V.int) ∧ ∀ H', Q (.bl true) H') hn (by decide) hdf hk hY ?_ (fun w H a ns h1 h2 h3 => ⟨a, ns, rfl, h1, h3, fun _ => rfl⟩) fun w H s e s' h => ?_
  · intro w mg fa h X G hm
    obtain ⟨ct, fd, hb, hf⟩ := hF w mg fa h X G hm
    refine ⟨fd, hb, fun base hB hN => (hf base hB hN).imp ?_⟩
    rintro vs H Q E ⟨a, ns, rfl, hl, hS, hQ⟩
    obtain ⟨M, hM⟩ := hlaw ns hl
    have rv : RVs (K w.params) ct (fun _ => False) [] H [.fro (ns.map W.int)] [.ref a] := by
      refine RVs.one ⟨a, ns.map V.int, rfl, ?_, RVs.ints ns⟩
      rcases hS with h | h
      · exact .inl ⟨h, fun z => z, fun z => nomatch z⟩
      · exact .inr h
    refine ⟨rfl, fun _ => False, [], [], _, rv, ⟨rfl, List.nodup_nil, fun _ z => z.elim, fun _ z => (nomatch z), fun _ z => (nomatch z), fun _ _ _ z => (by simp at z)⟩, ?_⟩
    rw [hM]
    intro φ' H' v l rm hv
    cases hv
    exact hQ H'
  · obtain ⟨_, _, _, _, _, _, _, _, _, _, _, _, z⟩ := h
    exact z.elim
end LP

namespace LP
open PySem PySem.Spec L2

/-! ### rules for reckoning -/
section
variable {α β : Type} {a : α} {M : Mem} {ρ : Rho} {c : Str} {e : Option Int} {w x y : W} {ws us : List W} {i j : Int} {b : Bool} {d da db dc : DEn} {t ta tb : DTn} {s s1 s2 : DSn} {f g : W → W → Mem → Res W} {aa : DAn} {z z1 z2 : Str} {n k : Nat}
@[simp] theorem bind_ok' {k : α → Mem → Res β} : (Res.ok a M).bind k = k a M := (rfl)
@[simp] theorem bind_bad' {k : α → Mem → Res β} : (Res.bad : Res α).bind k = .bad := (rfl)
@[simp] theorem bind_exc' {k : α → Mem → Res β} : (Res.exc c e M : Res α).bind k = .exc c e M := (rfl)
@[simp] theorem to_ok {k : α → Mem → SRes} : (Res.ok a M).to ρ k = k a M := (rfl)
@[simp] theorem to_bad {k : α → Mem → SRes} : (Res.bad : Res α).to ρ k = .bad := (rfl)
@[simp] theorem to_exc {k : α → Mem → SRes} : (Res.exc c e M : Res α).to ρ k = .exc c e ρ M := (rfl)
@[simp] theorem seq_nx {k : Rho → Mem → SRes} : (SRes.nx ρ M).seq k = k ρ M := (rfl)
@[simp] theorem seq_rt {k : Rho → Mem → SRes} : (SRes.rt w M).seq k = .rt w M := (rfl)
@[simp] theorem seq_bk {k : Rho → Mem → SRes} : (SRes.bk ρ M).seq k = .bk ρ M := (rfl)
@[simp] theorem seq_ct {k : Rho → Mem → SRes} : (SRes.ct ρ M).seq k = .ct ρ M := (rfl)
@[simp] theorem seq_bad {k : Rho → Mem → SRes} : SRes.bad.seq k = .bad := (rfl)
@[simp] theorem seq_exc {k : Rho → Mem → SRes} : (SRes.exc c e ρ M).seq k = .exc c e ρ M := (rfl)
@[simp] theorem fin_nx : (SRes.nx ρ M).fin = .ok .non M := (rfl)
@[simp] theorem fin_rt : (SRes.rt w M).fin = .ok w M := (rfl)
@[simp] theorem fin_exc : (SRes.exc c e ρ M).fin = .exc c e M := (rfl)
@[simp] theorem run_eq : runD n s ws M = (s (startR n ws) M).fin := (rfl)
theorem start_eq : startR n ws = ws.map some ++ List.replicate (n - ws.length) none := (rfl)
@[simp] theorem when_t {p : Prop} [Decidable p] {r : Res α} (h : p) : Res.when p r = r := if_pos h
-- statements
@[simp] theorem sSeq_eq : sSeq s1 s2 ρ M = (s1 ρ M).seq s2 := (rfl)
@[simp] theorem sNext_eq : sNext ρ M = .nx ρ M := (rfl)
@[simp] theorem sIf_eq : sIf t s1 s2 ρ M = (t ρ M).to ρ fun b M1 => if b = true then s1 ρ M1 else s2 ρ M1 := (rfl)
@[simp] theorem sSet_eq : sSet k d ρ M = (d ρ M).to ρ fun w M1 => .nx (ρ.set k (some w)) M1 := (rfl)
@[simp] theorem sAug_eq : sAug k f d ρ M = ((dVar k ρ M).bind fun x M1 => (d ρ M1).bind fun y M2 => f x y M2).to ρ fun w M1 => .nx (ρ.set k (some w)) M1 := (rfl)
@[simp] theorem sRet_eq : sRet d ρ M = (d ρ M).to ρ fun w M1 => .rt w M1 := (rfl)
@[simp] theorem sRetN_eq : sRetN ρ M = .rt .non M := (rfl)
@[simp] theorem sExpr_eq : sExpr d ρ M = (d ρ M).to ρ fun _ M1 => .nx ρ M1 := (rfl)
@[simp] theorem sFor_eq {g : DGn} : sFor aa g s ρ M = (aa ρ M).to ρ fun ws M1 => loopD g s ws ρ M1 := (rfl)
@[simp] theorem loop_nil {g : DGn} : loopD g s [] ρ M = .nx ρ M := (rfl)
theorem loop_cons {g : DGn} : loopD g s (w :: ws) ρ M = match g w ρ M with
    | some ρ1 => (match s ρ1 M with
      | .nx ρ2 M2 => loopD g s ws ρ2 M2
      | .ct ρ2 M2 => loopD g s ws ρ2 M2
      | .bk ρ2 M2 => .nx ρ2 M2
      | r => r)
    | none => .bad := rfl
/-- one turn that goes on -/
theorem loop_nx {g : DGn} {ρ1 ρ2 : Rho} {M2 : Mem} (h1 : g w ρ M = some ρ1) (h2 : s ρ1 M = .nx ρ2 M2) : loopD g s (w :: ws) ρ M = loopD g s ws ρ2 M2 := by
  rw [loop_cons, h1]
  dsimp only
  rw [h2]
theorem loop_rt {g : DGn} {ρ1 : Rho} {M2 : Mem} (h1 : g w ρ M = some ρ1) (h2 : s ρ1 M = .rt x M2) : loopD g s (w :: ws) ρ M = .rt x M2 := by
  rw [loop_cons, h1]
  dsimp only
  rw [h2]
@[simp] theorem gN_eq : gN k w ρ M = some (ρ.set k (some w)) := (rfl)
-- names
@[simp] theorem var_0 {r : Rho} : dVar 0 (some w :: r) M = .ok w M := (rfl)
@[simp] theorem var_s {o : Option W} {r : Rho} : dVar (k + 1) (o :: r) M = dVar k r M := (rfl)
@[simp] theorem dC_eq : dC w ρ M = .ok w M := (rfl)
-- operations
@[simp] theorem dBin_eq : dBin f da db ρ M = (da ρ M).bind fun x M1 => (db ρ M1).bind fun y M2 => f x y M2 := (rfl)
@[simp] theorem dNot_eq : dNot t ρ M = (t ρ M).bind fun b M1 => .ok (!b) M1 := (rfl)
@[simp] theorem dAnd_eq : dAnd ta tb ρ M = (ta ρ M).bind fun b M1 => if b = true then tb ρ M1 else .ok false M1 := (rfl)
@[simp] theorem dOr_eq : dOr ta tb ρ M = (ta ρ M).bind fun b M1 => if b = true then .ok true M1 else tb ρ M1 := (rfl)
@[simp] theorem dAndV_eq : dAndV t d ρ M = (t ρ M).bind fun b M1 => if b = true then d ρ M1 else .ok (.bl false) M1 := (rfl)
@[simp] theorem dOrV_eq : dOrV t d ρ M = (t ρ M).bind fun b M1 => if b = true then .ok (.bl true) M1 else d ρ M1 := (rfl)
@[simp] theorem dNotV_eq : dNotV t ρ M = (t ρ M).bind fun b M1 => .ok (.bl (!b)) M1 := (rfl)
@[simp] theorem dIf_eq {p q : Rho → Mem → Res α} : dIf t p q ρ M = (t ρ M).bind fun b M1 => if b = true then p ρ M1 else q ρ M1 := (rfl)
def asBool (w : W) (M : Mem) : Res Bool := match w with
  | .bl b => .ok b M
  | _ => .bad
@[simp] theorem asBool_bl : asBool (.bl b) M = .ok b M := (rfl)
@[simp] theorem toB_eq : toB d ρ M = (d ρ M).bind asBool := (rfl)
@[simp] theorem dNil_eq : dNil ρ M = .ok [] M := (rfl)
@[simp] theorem dCons_eq : dCons d aa ρ M = (d ρ M).bind fun x M1 => (aa ρ M1).bind fun xs M2 => .ok (x :: xs) M2 := (rfl)
@[simp] theorem dCall_eq {f : List W → Mem → Res W} : dCall f aa ρ M = (aa ρ M).bind f := (rfl)
@[simp] theorem dTup_eq : dTup aa ρ M = (aa ρ M).bind fun ws M1 => if ws.length ≤ sizeLine then .ok (.tup ws) M1 else .bad := (rfl)
@[simp] theorem dLst_eq : dLst aa ρ M = (aa ρ M).bind fun ws M1 => if ws.length ≤ sizeLine then .ok ws M1 else .bad := (rfl)
@[simp] theorem dImm_eq : dImm aa ρ M = (aa ρ M).bind fun ws M1 => .ok (.lst ws) M1 := (rfl)
@[simp] theorem dMut_eq : dMut aa ρ M = (aa ρ M).bind fun ws M1 => .ok (.loc M1.length) (M1 ++ [.lst ws]) := (rfl)
@[simp] theorem dStill_eq {f : W → Option (List W)} : dStill f d ρ M = (d ρ M).bind fun w M1 => match f w with
  | some ws => .ok ws M1
  | none => .bad := rfl
def rng1 (ws : List W) (M : Mem) : Res (List W) := match ws with
  | [.int j] => .when (inW62 j) (.ok (rangeW 0 j.toNat) M)
  | _ => .bad
def rng2 (ws : List W) (M : Mem) : Res (List W) := match ws with
  | [.int i, .int j] => .when (inW62 i ∧ inW62 j) (.ok (rangeW i (j - i).toNat) M)
  | _ => .bad
@[simp] theorem dRange1_eq : dRange1 aa ρ M = (aa ρ M).bind rng1 := (rfl)
@[simp] theorem dRange2_eq : dRange2 aa ρ M = (aa ρ M).bind rng2 := (rfl)
theorem rng1_ok (h : -4611686018427387904 ≤ i) (h' : i < 4611686018427387904) : rng1 [.int i] M = .ok (rangeW 0 i.toNat) M := when_t ⟨h, h'⟩
theorem rng2_ok (h : -4611686018427387904 ≤ i) (h' : i < 4611686018427387904) (g : -4611686018427387904 ≤ j) (g' : j < 4611686018427387904) : rng2 [.int i, .int j] M = .ok (rangeW i (j - i).toNat) M := when_t ⟨⟨h, h'⟩, g, g'⟩
-- values
@[simp] theorem add_ii : vAdd (.int i) (.int j) M = .ok (.int (i + j)) M := (rfl)
@[simp] theorem iadd_ii : vIAdd (.int i) (.int j) M = .ok (.int (i + j)) M := (rfl)
theorem add_ss (h : z1.length + z2.length ≤ 16777216) : vAdd (.str z1) (.str z2) M = .ok (.str (z1 ++ z2)) M := when_t (by rw [sizeLine_eq]; exact h)
theorem iadd_ss (h : z1.length + z2.length ≤ 16777216) : vIAdd (.str z1) (.str z2) M = .ok (.str (z1 ++ z2)) M := when_t (by rw [sizeLine_eq]; exact h)
theorem add_tt (h : ws.length + us.length ≤ 16777216) : vAdd (.tup ws) (.tup us) M = .ok (.tup (ws ++ us)) M := when_t (by rw [sizeLine_eq]; exact h)
theorem add_ll (h : ws.length + us.length ≤ 16777216) : vAdd (.lst ws) (.lst us) M = .ok (.lst (ws ++ us)) M := when_t (by rw [sizeLine_eq]; exact h)
@[simp] theorem sub_ii : vSub (.int i) (.int j) M = .ok (.int (i - j)) M := (rfl)
theorem mul_l (h1 : -18446744073709551616 < i) (h2 : i < 18446744073709551616) : vMul (.int i) (.int j) M = .ok (.int (i * j)) M := when_t (.inl ⟨h1, h2⟩)
theorem mul_r (h1 : -18446744073709551616 < j) (h2 : j < 18446744073709551616) : vMul (.int i) (.int j) M = .ok (.int (i * j)) M := when_t (.inr ⟨h1, h2⟩)
theorem div_ok (h1 : 0 < j) (h2 : j < 1073741824) : vDiv (.int i) (.int j) M = .ok (.int (i / j)) M := when_t ⟨h1, h2⟩
theorem mod_ok (h1 : 0 < j) : vMod (.int i) (.int j) M = .ok (.int (i % j)) M := when_t h1
theorem pow_ok (h1 : 0 ≤ j) (h2 : j ≤ 1000000) (h3 : i.natAbs < 18446744073709551616) : vPow (.int i) (.int j) M = .ok (.int (i ^ j.toNat)) M := when_t ⟨h1, h2, h3⟩
theorem shr_ok (h1 : 0 ≤ j) : vShr (.int i) (.int j) M = .ok (.int (i / 2 ^ j.toNat)) M := when_t h1
@[simp] theorem and_ii : vAnd (.int i) (.int j) M = .ok (.int (Builtin.bitAnd i j)) M := (rfl)
def neg1 (w : W) (M : Mem) : Res W := match w with
  | .int i => .ok (.int (-i)) M
  | _ => .bad
@[simp] theorem dNeg_eq : dNeg d ρ M = (d ρ M).bind neg1 := (rfl)
@[simp] theorem neg_i : neg1 (.int i) M = .ok (.int (-i)) M := (rfl)
@[simp] theorem cmp_ii {f : Int → Int → Bool} {g : Str → Str → Bool} : vCmp f g (.int i) (.int j) M = .ok (.bl (f i j)) M := (rfl)
@[simp] theorem cmp_ss {f : Int → Int → Bool} {g : Str → Str → Bool} : vCmp f g (.str z1) (.str z2) M = .ok (.bl (g z1 z2)) M := (rfl)
@[simp] theorem eq_ii {k : Bool → Bool} : vEq k (.int i) (.int j) M = .ok (.bl (k (i == j))) M := (rfl)
@[simp] theorem eq_ss {k : Bool → Bool} : vEq k (.str z1) (.str z2) M = .ok (.bl (k (z1 == z2))) M := (rfl)
theorem eq_dd {k : Bool → Bool} (h1 : okD (look M x)) (h2 : okD (look M y)) (hx : ∀ i, x ≠ .int i) (hs : ∀ s, x ≠ .str s) : vEq k x y M = .ok (.bl (k (weq (look M x) (look M y)))) M := by
  unfold vEq
  split
  · exact absurd rfl (hx _)
  · exact absurd rfl (hs _)
  · rw [when_t h1, when_t h2]
@[simp] theorem eq_bb {k : Bool → Bool} {a b : Bool} : vEq k (.bl a) (.bl b) M = .ok (.bl (k (a == b))) M := by
  rw [eq_dd (by exact ⟨rfl, Nat.zero_le _⟩) (by exact ⟨rfl, Nat.zero_le _⟩) (fun _ h => by cases h) (fun _ h => by cases h)]
  rfl
theorem ix_t {v : W} (h : atI ws i = some v) : vIx (.tup ws) (.int i) M = .ok v M := by
  show (match asS M (.tup ws) with | some ws => (match atI ws i with | some w => Res.ok w M | none => .bad) | none => .bad) = _
  show (match atI ws i with | some w => Res.ok w M | none => .bad) = _
  rw [h]
theorem ix_l {v : W} (h : atI ws i = some v) : vIx (.lst ws) (.int i) M = .ok v M := by
  show (match atI ws i with | some w => Res.ok w M | none => .bad) = _
  rw [h]
theorem ix_f {v : W} (h : atI ws i = some v) : vIx (.fro ws) (.int i) M = .ok v M := by
  show (match atI ws i with | some w => Res.ok w M | none => .bad) = _
  rw [h]
theorem ix_s {ch : Nat} (h : atI z.cps.toList i = some ch) (hz : z.length ≤ 16777216) : vIx (.str z) (.int i) M = .ok (.str ⟨#[ch]⟩) M := by
  show (match atI z.cps.toList i with | some c => Res.when (z.length ≤ sizeLine) (Res.ok (W.str ⟨#[c]⟩) M) | none => .bad) = _
  rw [h]
  exact when_t (by rw [sizeLine_eq]; exact hz)
theorem atI_in {α : Type} {xs : List α} {i : Int} (h0 : 0 ≤ i) (h : i < (xs.length : Int)) : atI xs i = some (xs[i.toNat]'(by omega)) := by
  have hk : i.toNat < xs.length := by omega
  have e : ((i.toNat : Nat) : Int) = i := by omega
  have q := atI_nat (xs := xs) (j := i.toNat) (v := xs[i.toNat]) (by simp [hk])
  rw [e] at q
  exact q
@[simp] theorem len_t : fLen [.tup ws] M = .ok (.int ws.length) M := (rfl)
@[simp] theorem len_l : fLen [.lst ws] M = .ok (.int ws.length) M := (rfl)
@[simp] theorem len_f : fLen [.fro ws] M = .ok (.int ws.length) M := (rfl)
theorem len_s (h : z.length ≤ 16777216) : fLen [.str z] M = .ok (.int z.length) M := when_t (by rw [sizeLine_eq]; exact h)
@[simp] theorem max2_ii : fMax2 [.int i, .int j] M = .ok (.int (if j > i then j else i)) M := (rfl)
@[simp] theorem min2_ii : fMin2 [.int i, .int j] M = .ok (.int (if j < i then j else i)) M := (rfl)
@[simp] theorem int_b : fInt [.bl b] M = .ok (.int (if b then 1 else 0)) M := (rfl)
def isT1 (t : Tg) (w : W) (M : Mem) : Res W := match tagW M w with
  | some s => .ok (.bl (instT s t)) M
  | none => .bad
@[simp] theorem dIsT_eq {t : Tg} : dIsT t d ρ M = (d ρ M).bind (isT1 t) := (rfl)
@[simp] theorem isT_b {t : Tg} : isT1 t (.bl b) M = .ok (.bl (instT .bl t)) M := (rfl)
@[simp] theorem isT_i {t : Tg} : isT1 t (.int i) M = .ok (.bl (instT .int t)) M := (rfl)
@[simp] theorem isT_s {t : Tg} : isT1 t (.str z) M = .ok (.bl (instT .str t)) M := (rfl)
@[simp] theorem isT_n {t : Tg} : isT1 t .non M = .ok (.bl (instT .non t)) M := (rfl)
@[simp] theorem isT_t {t : Tg} : isT1 t (.tup ws) M = .ok (.bl (instT .tup t)) M := (rfl)
@[simp] theorem isT_l {t : Tg} : isT1 t (.lst ws) M = .ok (.bl (instT .lst t)) M := (rfl)
-- calls
theorem callP_ok {F : FnD} {M' : Mem} (hn : ws.length = n) (hl : lfs ws = true) (h : F ws [] = .ok w M') (hw : lf w = true) : callP n F ws M = .ok w M := by
  unfold callP
  rw [if_pos ⟨hn, hl⟩, h]
  dsimp only
  unfold reify
  rw [mapLoc_lf _ _ hw]
theorem callP_exc {F : FnD} {M' : Mem} (hn : ws.length = n) (hl : lfs ws = true) (h : F ws [] = .exc c e M') : callP n F ws M = .exc c e M := by
  unfold callP
  rw [if_pos ⟨hn, hl⟩, h]
theorem lfs_ints (ns : List Int) : lfs (ns.map .int) = true := by
  induction ns with
  | nil => rfl
  | cons n r ih => exact ih
theorem and_mask (x : Int) : 0 ≤ Builtin.bitAnd x 2147483647 ∧ Builtin.bitAnd x 2147483647 < 2147483648 := by
  have h := PyProof.Rows.bitAnd_range x (y := 2147483647) (by decide)
  exact ⟨h.1, by omega⟩
/-- a loop whose turns all go on, by its invariant -/
theorem loop_inv {g : DGn} {s : DSn} (I : Nat → Rho → Mem → Prop) : ∀ (ws : List W) (k : Nat) (ρ : Rho) (M : Mem), I k ρ M →
    (∀ i w ρ M, ws[i]? = some w → I (k + i) ρ M → ∃ ρ1 ρ2 M2, g w ρ M = some ρ1 ∧ (s ρ1 M = .nx ρ2 M2 ∨ s ρ1 M = .ct ρ2 M2) ∧ I (k + i + 1) ρ2 M2) → ∃ ρ' M', loopD g s ws ρ M = .nx ρ' M' ∧ I (k + ws.length) ρ' M' := by
  intro ws
  induction ws with
  | nil => exact fun k ρ M h _ => ⟨ρ, M, rfl, h⟩
  | cons w ws ih =>
    intro k ρ M h hs
    obtain ⟨ρ1, ρ2, M2, h1, h2, h3⟩ := hs 0 w ρ M rfl h
    obtain ⟨ρ', M', h4, h5⟩ := ih (k + 1) ρ2 M2 h3 fun i u ρ M e hi => by
      obtain ⟨a, b, c, q1, q2, q3⟩ := hs (i + 1) u ρ M (by simpa using e) (by rw [show k + (i + 1) = k + 1 + i by omega]; exact hi)
      exact ⟨a, b, c, q1, q2, by rw [show k + 1 + i + 1 = k + (i + 1) + 1 by omega]; exact q3⟩
    refine ⟨ρ', M', ?_, by rw [List.length_cons, show k + (ws.length + 1) = k + 1 + ws.length by omega]; exact h5⟩
    rw [loop_cons, h1]
    dsimp only
    rcases h2 with h2 | h2 <;> rw [h2] <;> exact h4
theorem rangeW_get {lo : Int} {n i : Nat} {w : W} (h : (rangeW lo n)[i]? = some w) : i < n ∧ w = .int (lo + i) := by
  unfold rangeW at h
  rw [List.getElem?_map] at h
  obtain ⟨c, hc, ec⟩ := Option.map_eq_some_iff.mp h
  have hl : i < n := by
    have := (List.getElem?_eq_some_iff.mp hc).1
    simpa using this
  rw [List.getElem?_range hl] at hc
  cases hc
  exact ⟨hl, ec.symm⟩
/-- an item of a list that is written -/
def pick (ws : List W) (i : Int) : W := ws.getD i.toNat .non
theorem ix_lp {ws : List W} {i : Int} {M : Mem} (h0 : 0 ≤ i) (h : i < (ws.length : Int)) : vIx (.lst ws) (.int i) M = .ok (pick ws i) M := by
  rw [ix_l (atI_in h0 h)]
  unfold pick
  rw [List.getD_eq_getElem?_getD, List.getElem?_eq_getElem (by omega)]
  rfl
theorem pick_mem {ws : List W} {i : Int} (h0 : 0 ≤ i) (h : i < (ws.length : Int)) : pick ws i ∈ ws := by
  unfold pick
  rw [List.getD_eq_getElem?_getD, List.getElem?_eq_getElem (show i.toNat < ws.length by omega)]
  exact List.getElem_mem _
theorem line_eq : sizeLine = 16777216 := sizeLine_eq
end
end LP

namespace LP
open PySem PySem.Spec L2

/-! ### methods of texts -/
def asZ : W → Option Str
  | .str z => some z
  | _ => none
def dM1 (f : Str → W → Mem → Res W) (d e : DEn) : DEn := fun ρ M => (d ρ M).bind fun x M1 => match asZ x with
  | some z => (e ρ M1).bind fun y M2 => f z y M2
  | none => .bad
def dM1L (f : Str → W → Mem → Res (List W)) (d e : DEn) : DAn := fun ρ M => (d ρ M).bind fun x M1 => match asZ x with
  | some z => (e ρ M1).bind fun y M2 => f z y M2
  | none => .bad
theorem asZ_ok {K : PySem.W.Frag} {ct : CT} {S : Addr → Prop} {φ : List Addr} {H : Hp} {w : W} {v : V} {z : Str} (h : RV K ct S φ H w v) (e : asZ w = some z) : v = .str z := by
  cases w with
  | str y => cases e; exact h
  | _ => cases e
def M1R (K : PySem.W.Frag) (ct : CT) (Wx : WX) (r : V → List V → Hp → VK → Prop) (f : Str → W → Mem → Res W) : Prop :=
  ∀ S φ H ρ M σ z y u Q, SR K ct S φ H ρ M σ → RV K ct S φ H y u → PostG K ct Wx (RelW K ct) S φ H ρ σ (f z y M) Q → r (.str z) [u] H Q
def M1L (K : PySem.W.Frag) (ct : CT) (Wx : WX) (r : V → List V → Hp → VK → Prop) (f : Str → W → Mem → Res (List W)) : Prop :=
  ∀ S φ H ρ M σ z y u Q, SR K ct S φ H ρ M σ → RV K ct S φ H y u → PostG K ct Wx (RelWs K ct) S φ H ρ σ (f z y M) (fun us H1 => ∀ p, H1 p = none → Q (.ref p) (upd H1 p (.lst us))) → r (.str z) [u] H Q
section
variable {K : PySem.W.Frag} {ct : CT} {Wx : WX} {r : V → List V → Hp → VK → Prop} {f : Str → W → Mem → Res W} {g : Str → W → Mem → Res (List W)} {d e : DEn}
theorem tM1_of (hv : M1R K ct Wx r f) : ∀ σ H Q, rdE K ct Wx (dM1 f d e) σ H Q → tM1 r (rdE K ct Wx d) (rdE K ct Wx e) σ H Q := by
  intro σ H Q ⟨S, φ, ρ, M, sr, q⟩
  refine ⟨S, φ, ρ, M, sr, PostG.bind q fun φ1 H1 M1 x v l1 sr1 r1 q1 => ?_⟩
  split at q1
  · rename_i z ez
    rw [asZ_ok r1 ez]
    exact ⟨⟨z, rfl⟩, S, φ1, ρ, M1, sr1, PostG.bind q1 fun φ2 H2 M2 y u l2 sr2 r2 q2 => hv S φ2 H2 ρ M2 σ z y u Q sr2 r2 q2⟩
  · exact q1.elim
theorem tM1L_of (hv : M1L K ct Wx r g) : ∀ σ H Q, rdL K ct Wx (dM1L g d e) σ H Q → tM1 r (rdE K ct Wx d) (rdE K ct Wx e) σ H Q := by
  intro σ H Q ⟨S, φ, ρ, M, sr, q⟩
  refine ⟨S, φ, ρ, M, sr, PostG.bind q fun φ1 H1 M1 x v l1 sr1 r1 q1 => ?_⟩
  split at q1
  · rename_i z ez
    rw [asZ_ok r1 ez]
    exact ⟨⟨z, rfl⟩, S, φ1, ρ, M1, sr1, PostG.bind q1 fun φ2 H2 M2 y u l2 sr2 r2 q2 => hv S φ2 H2 ρ M2 σ z y u Q sr2 r2 q2⟩
  · exact q1.elim
/-- a scalar of two texts -/
def f2 (g : Str → Str → W) : Str → W → Mem → Res W := fun z y M => match asZ y with
  | some u => .ok (g z u) M
  | none => .bad
def flatV2 (g : Str → Str → V) (h : Str → Str → W) : Prop := ∀ (K : PySem.W.Frag) ct S φ H a b, RV K ct S φ H (h a b) (g a b)
theorem val_f2 {g : Str → Str → V} {h : Str → Str → W} (hg : flatV2 g h) : M1R K ct Wx (fun x xs H Q => ∃ a b, x = .str a ∧ xs = [.str b] ∧ Q (g a b) H) (f2 h) := by
  intro S φ H ρ M σ z y u Q sr ry q
  unfold f2 at q
  split at q
  · rename_i b eb
    rw [asZ_ok ry eb]
    exact ⟨z, b, rfl, rfl, PostG.ok (Wx := Wx) (Rel := RelW K ct) sr (hg K ct S φ H z b) q⟩
  · exact q.elim
def fSplit : Str → W → Mem → Res (List W) := fun z y M => match asZ y with
  | some b => .when ((b.length == 0) = false ∧ z.length + 2 ≤ sizeLine) (.ok ((Txt.split z b).map .str) M)
  | none => .bad
theorem val_split : M1L K ct Wx (fun x xs H Q => ∃ a b, x = .str a ∧ xs = [.str b] ∧ (b.length == 0) = false ∧ a.length + 2 ≤ sizeLine ∧ rNewStrs (Txt.split a b) H Q) fSplit := by
  intro S φ H ρ M σ z y u Q sr ry q
  unfold fSplit at q
  split at q
  · rename_i b eb
    rw [asZ_ok ry eb]
    obtain ⟨⟨h1, h2⟩, q⟩ := PostG.when q
    exact ⟨z, b, rfl, rfl, h1, h2, fun p hp => q φ H _ (Le.refl _ _) sr (RVs.strs _) p hp⟩
  · exact q.elim
def fJoin : Str → W → Mem → Res W := fun z y M => match (asS M y).bind strsOf with
  | some ys => .when ((ys.map (·.length)).sum + ys.length * z.length ≤ 16777216) (.ok (.str (Txt.join z ys)) M)
  | none => .bad
theorem val_join : M1R K ct Wx (fun x xs H Q => ∃ a p, ∃ ys : List Str, x = .str a ∧ xs = [.ref p] ∧ (SqL K H p (ys.map V.str) ∨ SqT K H p (ys.map V.str)) ∧ (ys.map (·.length)).sum + ys.length * a.length ≤ 16777216 ∧ Q (.str (Txt.join a ys)) H) fJoin := by
  intro S φ H ρ M σ z y u Q sr ry q
  unfold fJoin at q
  split at q
  · rename_i ys es
    obtain ⟨us, e2, e3⟩ := Option.bind_eq_some_iff.mp es
    obtain ⟨a, ts, e1, h1, r1⟩ := asS_ok sr.mem ry e2
    rw [strs_ok r1 e3] at h1
    subst e1
    obtain ⟨hz, q⟩ := PostG.when q
    exact ⟨z, a, ys, rfl, rfl, h1, hz, PostG.ok (Wx := Wx) (Rel := RelW K ct) (a := W.str _) sr rfl q⟩
  · exact q.elim
def fLjust : Str → W → Mem → Res W := fun z y M => match asI y with
  | some i => .when (PadOk i = true) (.ok (.str (Txt.ljust z i)) M)
  | none => .bad
theorem val_ljust : M1R K ct Wx (fun x xs H Q => ∃ (a : Str) (i : Int), x = .str a ∧ xs = [.int i] ∧ PadOk i = true ∧ Q (.str (Txt.ljust a i)) H) fLjust := by
  intro S φ H ρ M σ z y u Q sr ry q
  unfold fLjust at q
  split at q
  · rename_i b eb
    rw [asI_eq eb] at ry
    cases ry
    obtain ⟨hz, q⟩ := PostG.when q
    exact ⟨z, b, rfl, rfl, hz, PostG.ok (Wx := Wx) (Rel := RelW K ct) (a := W.str _) sr rfl q⟩
  · exact q.elim
end
section
variable {X : Cx} {ct : CT} {Wx : WX} {apos pos : Pos} {o e : Expr} {d de : DEn}
abbrev fFind := f2 fun a b => .int (Txt.find a b)
abbrev fRfind := f2 fun a b => .int (Txt.rfind a b)
abbrev fStarts := f2 fun a b => .bl (Txt.startswith a b)
theorem de_find (ho : DE X ct Wx o d) (he : DE X ct Wx e de) (hs : starEach [e] X.env = [(false, eval e X.env)] := by rfl) (hbase : attributeBase o "find" X.env (eval o X.env) = eval o X.env := by rfl) (hline : (apos.endLine == pos.line) = true := by rfl) :
    DE X ct Wx (.Call (.Attribute o "find" apos) [e] [] pos) (dM1 fFind d de) := ⟨PE.imp (pe_m1 F.slot_str_find F.type_str_find mt_find ho.pe he.pe hs hbase hline) (tM1_of (val_f2 (g := fun a b => .int (Txt.find a b)) fun _ _ _ _ _ _ _ => rfl))⟩
theorem de_rfind (ho : DE X ct Wx o d) (he : DE X ct Wx e de) (hs : starEach [e] X.env = [(false, eval e X.env)] := by rfl) (hbase : attributeBase o "rfind" X.env (eval o X.env) = eval o X.env := by rfl) (hline : (apos.endLine == pos.line) = true := by rfl) :
    DE X ct Wx (.Call (.Attribute o "rfind" apos) [e] [] pos) (dM1 fRfind d de) := ⟨PE.imp (pe_m1 F.slot_str_rfind F.type_str_rfind mt_rfind ho.pe he.pe hs hbase hline) (tM1_of (val_f2 (g := fun a b => .int (Txt.rfind a b)) fun _ _ _ _ _ _ _ => rfl))⟩
theorem de_startswith (ho : DE X ct Wx o d) (he : DE X ct Wx e de) (hs : starEach [e] X.env = [(false, eval e X.env)] := by rfl) (hbase : attributeBase o "startswith" X.env (eval o X.env) = eval o X.env := by rfl) (hline : (apos.endLine == pos.line) = true := by rfl) :
    DE X ct Wx (.Call (.Attribute o "startswith" apos) [e] [] pos) (dM1 fStarts d de) := ⟨PE.imp (pe_m1 F.slot_str_startswith F.type_str_startswith mt_startswith ho.pe he.pe hs hbase hline) (tM1_of (val_f2 (g := fun a b => .bl (Txt.startswith a b)) fun _ _ _ _ _ _ _ => rfl))⟩
theorem de_join (ho : DE X ct Wx o d) (he : DE X ct Wx e de) (hs : starEach [e] X.env = [(false, eval e X.env)] := by rfl) (hbase : attributeBase o "join" X.env (eval o X.env) = eval o X.env := by rfl) (hline : (apos.endLine == pos.line) = true := by rfl) :
    DE X ct Wx (.Call (.Attribute o "join" apos) [e] [] pos) (dM1 fJoin d de) := ⟨PE.imp (pe_m1 F.slot_str_join F.type_str_join mt_join ho.pe he.pe hs hbase hline) (tM1_of val_join)⟩
theorem de_ljust (ho : DE X ct Wx o d) (he : DE X ct Wx e de) (hs : starEach [e] X.env = [(false, eval e X.env)] := by rfl) (hbase : attributeBase o "ljust" X.env (eval o X.env) = eval o X.env := by rfl) (hline : (apos.endLine == pos.line) = true := by rfl) :
    DE X ct Wx (.Call (.Attribute o "ljust" apos) [e] [] pos) (dM1 fLjust d de) := ⟨PE.imp (pe_m1 F.slot_str_ljust F.type_str_ljust mt_ljust ho.pe he.pe hs hbase hline) (tM1_of val_ljust)⟩
theorem dl_split (ho : DE X ct Wx o d) (he : DE X ct Wx e de) (hs : starEach [e] X.env = [(false, eval e X.env)] := by rfl) (hbase : attributeBase o "split" X.env (eval o X.env) = eval o X.env := by rfl) (hline : (apos.endLine == pos.line) = true := by rfl) :
    DL X ct Wx (.Call (.Attribute o "split" apos) [e] [] pos) (dM1L fSplit d de) := ⟨PE.imp (pe_split ho.pe he.pe hs hbase hline) (tM1L_of val_split)⟩
end

/-! ### methods of lists that are cells -/
/-- the cell's number and what it holds -/
def asC (M : Mem) : W → Option (Nat × List W)
  | .loc n => (cellL M[n]?).map fun ws => (n, ws)
  | _ => none
theorem asC_ok {K : PySem.W.Frag} {ct : CT} {S : Addr → Prop} {φ : List Addr} {H : Hp} {M : Mem} (m : RM K ct S φ H M) {w : W} {v : V} {n : Nat} {ws : List W} (h : RV K ct S φ H w v) (e : asC M w = some (n, ws)) :
    ∃ a vs, w = .loc n ∧ v = .ref a ∧ φ[n]? = some a ∧ H a = some (.lst vs) ∧ RVs K ct S φ H ws vs := by
  cases w with
  | loc k =>
    have e : (cellL M[k]?).map (fun ws => (k, ws)) = some (n, ws) := e
    obtain ⟨us, eu, et⟩ := Option.map_eq_some_iff.mp e
    cases et
    obtain ⟨a, e1, h1⟩ := h
    obtain ⟨vs, h2, h3⟩ := m.cell n _ a (cellL_ok eu) h1
    exact ⟨a, vs, rfl, e1, h1, h2, h3⟩
  | _ => cases e
def dMl (f : Nat → List W → List W → Mem → Res W) (d : DEn) (da : DAn) : DEn := fun ρ M => (d ρ M).bind fun x M1 => match asC M1 x with
  | some _ => (da ρ M1).bind fun ys M2 => (match asC M2 x with
    | some (n, ws) => f n ws ys M2
    | none => .bad)
  | none => .bad
def MlR (K : PySem.W.Frag) (ct : CT) (Wx : WX) (r : V → List V → Hp → VK → Prop) (f : Nat → List W → List W → Mem → Res W) : Prop :=
  ∀ S φ H ρ M σ n a ws vs ys us Q, SR K ct S φ H ρ M σ → φ[n]? = some a → M[n]? = some (.lst ws) → H a = some (.lst vs) → RVs K ct S φ H ws vs → RVs K ct S φ H ys us → PostG K ct Wx (RelW K ct) S φ H ρ σ (f n ws ys M) Q → r (.ref a) us H Q
section
variable {K : PySem.W.Frag} {ct : CT} {Wx : WX} {r : V → List V → Hp → VK → Prop} {f : Nat → List W → List W → Mem → Res W} {d : DEn} {da : DAn}
theorem cell_at {S : Addr → Prop} {φ : List Addr} {H : Hp} {M : Mem} {w : W} {n : Nat} {ws : List W} (e : asC M w = some (n, ws)) : M[n]? = some (.lst ws) := by
  cases w with
  | loc k =>
    have e : (cellL M[k]?).map (fun ws => (k, ws)) = some (n, ws) := e
    obtain ⟨us, eu, et⟩ := Option.map_eq_some_iff.mp e
    cases et
    exact cellL_ok eu
  | _ => cases e
theorem tBM_of (hv : MlR K ct Wx r f) : ∀ σ H Q, rdE K ct Wx (dMl f d da) σ H Q → tBM K "list" r (rdE K ct Wx d) (rdA K ct Wx da) σ H Q := by
  intro σ H Q ⟨S, φ, ρ, M, sr, q⟩
  refine ⟨S, φ, ρ, M, sr, PostG.bind q fun φ1 H1 M1 x v l1 sr1 r1 q1 => ?_⟩
  split at q1
  · rename_i p ep
    obtain ⟨a, vs, e1, e2, h1, h2, h3⟩ := asC_ok sr1.mem (n := p.1) (ws := p.2) r1 ep
    refine ⟨by rw [e2]; exact .inl ⟨rfl, vs, SqL.of h2⟩, S, φ1, ρ, M1, sr1, PostG.bind q1 fun φ2 H2 M2 ys us l2 sr2 r2 q2 => ?_⟩
    split at q2
    · rename_i n ws en
      obtain ⟨b, ts, e3, e4, h4, h5, h6⟩ := asC_ok sr2.mem (RV.mono l2 _ _ r1) en
      rw [e4]
      exact hv S φ2 H2 ρ M2 σ n b ws ts ys us Q sr2 h4 (cell_at (S := S) (φ := φ2) (H := H2) en) h5 h6 r2 q2
    · exact q2.elim
  · exact q1.elim
theorem tBM0_of (hv : MlR K ct Wx r f) : ∀ σ H Q, rdE K ct Wx (dMl f d dNil) σ H Q → tBM0 K "list" r (rdE K ct Wx d) σ H Q := by
  intro σ H Q ⟨S, φ, ρ, M, sr, q⟩
  refine ⟨S, φ, ρ, M, sr, PostG.bind q fun φ1 H1 M1 x v l1 sr1 r1 q1 => ?_⟩
  split at q1
  · rename_i p ep
    obtain ⟨a, vs, e1, e2, h1, h2, h3⟩ := asC_ok sr1.mem (n := p.1) (ws := p.2) r1 ep
    refine ⟨by rw [e2]; exact .inl ⟨rfl, vs, SqL.of h2⟩, ?_⟩
    have q1 : PostG K ct Wx (RelW K ct) S φ1 H1 ρ σ (match asC M1 x with | some (n, ws) => f n ws [] M1 | none => .bad) Q := q1
    rw [ep] at q1
    rw [e2]
    exact hv S φ1 H1 ρ M1 σ p.1 a p.2 vs [] [] Q sr1 h1 (cell_at (S := S) (φ := φ1) (H := H1) (n := p.1) (ws := p.2) ep) h2 h3 rfl q1
  · exact q1.elim
/-- a cell's new contents -/
theorem put_cell {S : Addr → Prop} {φ : List Addr} {H : Hp} {ρ : Rho} {M : Mem} {σ : L2.St} {n : Nat} {a : Addr} {us : List W} {ts : List V} {w : W} {v : V} {Q : VK} (sr : SR K ct S φ H ρ M σ) (ha : φ[n]? = some a) (r : RVs K ct S φ H us ts) (rw' : RV K ct S φ H w v)
    (q : PostG K ct Wx (RelW K ct) S φ H ρ σ (.ok w (M.set n (.lst us))) Q) : Q v (upd H a (.lst ts)) := by
  have l : Le φ H φ (upd H a (.lst ts)) := Le.write (List.mem_of_getElem? ha)
  exact q φ _ v l (sr.write ha ⟨ts, upd_same, RVs.mono l _ _ r⟩) (RV.mono l _ _ rw')
def fAppend : Nat → List W → List W → Mem → Res W := fun n ws ys M => match ys with
  | [y] => .when (ws.length < sizeLine) (.ok .non (M.set n (.lst (ws ++ [y]))))
  | _ => .bad
theorem val_append : MlR K ct Wx rAppend fAppend := by
  intro S φ H ρ M σ n a ws vs ys us Q sr ha hM hH rv ry q
  unfold fAppend at q
  split at q
  · obtain ⟨u, e, h⟩ := one_of ry
    subst e
    obtain ⟨hz, q⟩ := PostG.when q
    exact ⟨a, vs, u, rfl, rfl, hH, by rw [← RVs.length rv]; exact hz, put_cell (w := .non) sr ha (RVs.append rv (RVs.one h)) rfl q⟩
  · exact q.elim
def fExtend : Nat → List W → List W → Mem → Res W := fun n ws ys M => match ys with
  | [y] => (match asL M y with
    | some us => .when (ws.length + us.length ≤ sizeLine) (.ok .non (M.set n (.lst (ws ++ us))))
    | none => .bad)
  | _ => .bad
theorem val_extend : MlR K ct Wx rExtend fExtend := by
  intro S φ H ρ M σ n a ws vs ys us Q sr ha hM hH rv ry q
  unfold fExtend at q
  split at q
  · obtain ⟨u, e, h⟩ := one_of ry
    subst e
    split at q
    · rename_i ts et
      obtain ⟨b, zs, e1, h1, r1⟩ := asL_ok sr.mem h et
      subst e1
      obtain ⟨hz, q⟩ := PostG.when q
      exact ⟨a, b, vs, zs, rfl, rfl, hH, h1, by rw [← RVs.length rv, ← RVs.length r1]; exact hz, put_cell (w := .non) sr ha (RVs.append rv r1) rfl q⟩
    · exact q.elim
  · exact q.elim
theorem RVs.dropLast {S : Addr → Prop} {φ : List Addr} {H : Hp} {ws : List W} {vs : List V} (r : RVs K ct S φ H ws vs) : RVs K ct S φ H ws.dropLast vs.dropLast := by
  rw [List.dropLast_eq_take, List.dropLast_eq_take, RVs.length r]
  exact r.take _
def fPop : Nat → List W → List W → Mem → Res W := fun n ws _ M => match ws[ws.length - 1]? with
  | some w => .ok w (M.set n (.lst ws.dropLast))
  | none => .bad
theorem val_pop : MlR K ct Wx (fun x us H Q => us = [] → rPop x us H Q) fPop := by
  intro S φ H ρ M σ n a ws vs ys us Q sr ha hM hH rv ry q e
  unfold fPop at q
  split at q
  · rename_i w ew
    obtain ⟨v, h1, h2⟩ := RVs.get rv ew
    exact ⟨a, vs, v, rfl, e, hH, by rw [← RVs.length rv]; exact h1, put_cell sr ha (RVs.dropLast rv) h2 q⟩
  · exact q.elim
def fClear : Nat → List W → List W → Mem → Res W := fun n _ _ M => .ok .non (M.set n (.lst []))
theorem val_clear : MlR K ct Wx (fun x us H Q => us = [] → rClear x us H Q) fClear := by
  intro S φ H ρ M σ n a ws vs ys us Q sr ha hM hH rv ry q e
  exact ⟨a, vs, rfl, e, hH, put_cell (w := .non) sr ha RVs.nil rfl q⟩
end
section
variable {X : Cx} {ct : CT} {Wx : WX} {apos pos : Pos} {o e : Expr} {d : DEn} {da : DAn}
theorem de_append (ho : DE X ct Wx o d) (ha : DA X ct Wx [e] da) (hbase : attributeBase o "append" X.env (eval o X.env) = eval o X.env := by rfl)
    (hfew : ((backTo pos (starEach [e] X.env)).all (fun x => !x.1) && (backToKw pos (keywordEach [] X.env)).all (fun x => x.1.isSome) && decide ([e].length + ([] : List Keyword).length + (if ([] : List Keyword).isEmpty then 0 else 1) < 30)) = true := by rfl)
    (hline : (apos.endLine == pos.line) = true := by rfl) (hs : starEach [e] X.env = (false, eval e X.env) :: starEach [] X.env := by rfl) (hplain : (backTo pos (starEach [] X.env)).any (·.1) = false := by rfl) : DE X ct Wx (.Call (.Attribute o "append" apos) [e] [] pos) (dMl fAppend d da) :=
  ⟨PE.imp (pe_bm PySem.F.plainAttrs_list PySem.F.slot_list_append PySem.F.type_list_append mt_append ho.pe ha.pa hbase hfew hline hs hplain) (tBM_of val_append)⟩
theorem de_extend (ho : DE X ct Wx o d) (ha : DA X ct Wx [e] da) (hbase : attributeBase o "extend" X.env (eval o X.env) = eval o X.env := by rfl)
    (hfew : ((backTo pos (starEach [e] X.env)).all (fun x => !x.1) && (backToKw pos (keywordEach [] X.env)).all (fun x => x.1.isSome) && decide ([e].length + ([] : List Keyword).length + (if ([] : List Keyword).isEmpty then 0 else 1) < 30)) = true := by rfl)
    (hline : (apos.endLine == pos.line) = true := by rfl) (hs : starEach [e] X.env = (false, eval e X.env) :: starEach [] X.env := by rfl) (hplain : (backTo pos (starEach [] X.env)).any (·.1) = false := by rfl) : DE X ct Wx (.Call (.Attribute o "extend" apos) [e] [] pos) (dMl fExtend d da) :=
  ⟨PE.imp (pe_bm PySem.F.plainAttrs_list PySem.F.slot_list_extend PySem.F.type_list_extend mt_extend ho.pe ha.pa hbase hfew hline hs hplain) (tBM_of val_extend)⟩
theorem de_pop (ho : DE X ct Wx o d) (hbase : attributeBase o "pop" X.env (eval o X.env) = eval o X.env := by rfl) (hline : (apos.endLine == pos.line) = true := by rfl) : DE X ct Wx (.Call (.Attribute o "pop" apos) [] [] pos) (dMl fPop d dNil) :=
  ⟨PE.imp (pe_bm0 PySem.F.plainAttrs_list PySem.F.slot_list_pop PySem.F.type_list_pop mt_pop ho.pe hbase hline) fun σ H Q q => by
    have := tBM0_of (val_pop (K := X.K) (ct := ct) (Wx := Wx)) σ H Q q
    obtain ⟨S, φ, ρ, M, sr, z⟩ := this
    refine ⟨S, φ, ρ, M, sr, ?_⟩
    cases e : d ρ M with
    | ok w M1 =>
      rw [e] at z
      exact fun φ' H' b l s r => ⟨(z φ' H' b l s r).1, (z φ' H' b l s r).2 rfl⟩
    | exc c i M1 =>
      rw [e] at z
      exact z
    | bad =>
      rw [e] at z
      exact z⟩
theorem de_clear (ho : DE X ct Wx o d) (hbase : attributeBase o "clear" X.env (eval o X.env) = eval o X.env := by rfl) (hline : (apos.endLine == pos.line) = true := by rfl) : DE X ct Wx (.Call (.Attribute o "clear" apos) [] [] pos) (dMl fClear d dNil) :=
  ⟨PE.imp (pe_bm0 PySem.F.plainAttrs_list PySem.F.slot_list_clear PySem.F.type_list_clear mt_clear ho.pe hbase hline) fun σ H Q q => by
    have := tBM0_of (val_clear (K := X.K) (ct := ct) (Wx := Wx)) σ H Q q
    obtain ⟨S, φ, ρ, M, sr, z⟩ := this
    refine ⟨S, φ, ρ, M, sr, ?_⟩
    cases e : d ρ M with
    | ok w M1 =>
      rw [e] at z
      exact fun φ' H' b l s r => ⟨(z φ' H' b l s r).1, (z φ' H' b l s r).2 rfl⟩
    | exc c i M1 =>
      rw [e] at z
      exact z
    | bad =>
      rw [e] at z
      exact z⟩
end
end LP

namespace LP
open PySem PySem.Spec L2

/-! ### [e for x in it if t], a list that is never changed -/
/-- nothing may be raised here -/
def Res.nox {α β : Type} (r : Res α) (k : α → Mem → Res β) : Res β := match r with
  | .ok a M => k a M
  | _ => .bad
def compD (i : Nat) (t : DTn) (el : DEn) (ρ : Rho) : List W → Mem → Res (List W)
  | [], M => .ok [] M
  | w :: ws, M => (t ((ρ.set i none).set i (some w)) M).nox fun b M1 => if b = true then ((el ((ρ.set i none).set i (some w)) M1).nox fun y M2 => (compD i t el ρ ws M2).nox fun ys M3 => .ok (y :: ys) M3) else compD i t el ρ ws M1
def dComp (it : DAn) (i : Nat) (t : DTn) (el : DEn) : DEn := fun ρ M => (it ρ M).bind fun ws M1 => (compD i t el ρ ws M1).nox fun ys M2 => .when (ys.length ≤ sizeLine) (.ok (.lst ys) M2)
abbrev WxF : WX := fun _ _ _ _ => False
section
variable {K : PySem.W.Frag} {ct : CT} {S : Addr → Prop} {φ : List Addr} {H : Hp} {ρ : Rho} {M : Mem} {σ : L2.St}
/-- an owner's object is changed: nothing that is described here -/
theorem poke {D : Addr} {o : HO} (hD : S D) : (∀ (w : W) (v : V), RV K ct S φ H w v → RV K ct S φ (upd H D o) w v) ∧ ∀ (ws : List W) (vs : List V), RVs K ct S φ H ws vs → RVs K ct S φ (upd H D o) ws vs := by
  have ne : ∀ a, Im S φ a → a ≠ D := fun a h e => h.1 (by rw [e]; exact hD)
  have rd : ∀ a u, Rd H a u → Im S φ a → Rd (upd H D o) a u := fun a u h i => by
    rcases h with h | ⟨ob, h⟩
    · exact .inl (by rw [upd_ne (ne a i)]; exact h)
    · exact .inr ⟨ob, by rw [upd_ne (ne a i)]; exact h⟩
  have both : ∀ (w : W), (∀ v, RV K ct S φ H w v → RV K ct S φ (upd H D o) w v) := by
    intro w
    refine W.rec (motive_1 := fun w => ∀ v, RV K ct S φ H w v → RV K ct S φ (upd H D o) w v) (motive_2 := fun ws => ∀ vs, RVs K ct S φ H ws vs → RVs K ct S φ (upd H D o) ws vs) ?_ ?_ ?_ ?_ ?_ ?_ ?_ ?_ ?_ ?_ ?_ w
    · exact fun v h => h
    · exact fun b v h => h
    · exact fun b v h => h
    · exact fun b v h => h
    · exact fun ws ih v ⟨a, vs, e, h, r⟩ => ⟨a, vs, e, h.imp (fun q => ⟨rd a _ q.1 q.2, q.2⟩) _root_.id, ih vs r⟩
    · exact fun ws ih v ⟨a, vs, e, h, r⟩ => ⟨a, vs, e, ⟨by rw [upd_ne (ne a h.2)]; exact h.1, h.2⟩, ih vs r⟩
    · exact fun ws ih v ⟨a, vs, e, h, r⟩ => ⟨a, vs, e, h.imp (fun q => ⟨rd a _ q.1 q.2, q.2⟩) _root_.id, ih vs r⟩
    · exact fun c ks ws ih v ⟨a, C, dx, fs, e, h, r⟩ => ⟨a, C, dx, fs, e, ⟨by rw [upd_ne (ne a h.2.1)]; exact h.1, h.2⟩, ih _ r⟩
    · exact fun n v h => h
    · exact fun vs h => h
    · exact fun w ws i1 i2 vs ⟨v, r, e, h, q⟩ => ⟨v, r, e, i1 v h, i2 r q⟩
  refine ⟨both, fun ws => ?_⟩
  induction ws with
  | nil => exact fun vs h => h
  | cons w ws ih => exact fun vs ⟨v, r, e, h, q⟩ => ⟨v, r, e, both w v h, ih r q⟩
theorem SR.poke {D : Addr} {o : HO} (r : SR K ct S φ H ρ M σ) (hD : S D) : SR K ct S φ (upd H D o) ρ M σ := by
  have p := LP.poke (K := K) (ct := ct) (φ := φ) (H := H) (o := o) hD
  have lv : ∀ a, H a ≠ none → upd H D o a ≠ none := fun a h => by
    by_cases e : a = D
    · rw [e, upd_same]; simp
    · rw [upd_ne e]; exact h
  refine ⟨r.len, fun i w h => let ⟨v, h1, h2⟩ := r.slot i w h; ⟨v, h1, p.1 w v h2⟩, ⟨r.mem.len, r.mem.nd, fun a h => lv a (r.mem.liveS a h), r.mem.disj, fun a h => lv a (r.mem.live a h), fun n c a h1 h2 => ?_⟩⟩
  have ne : a ≠ D := fun e => r.mem.disj a (List.mem_of_getElem? h2) (by rw [e]; exact hD)
  have hc := r.mem.cell n c a h1 h2
  cases c with
  | lst ws =>
    obtain ⟨vs, e, q⟩ := hc
    exact ⟨vs, by rw [upd_ne ne]; exact e, p.2 _ _ q⟩
  | ins c ks ws =>
    obtain ⟨C, dx, fs, e, h1, h2, q⟩ := hc
    exact ⟨C, dx, fs, by rw [upd_ne ne]; exact e, h1, h2, p.2 _ _ q⟩
  | dead => trivial
/-- one owner more, of a new object -/
theorem SR.owned {D : Addr} {o : HO} (r : SR K ct S φ H ρ M σ) (hD : H D = none) : SR K ct (fun a => S a ∨ a = D) φ (upd H D o) ρ M σ := by
  have r' : SR K ct S φ (upd H D o) ρ M σ := r.laid hD
  have im : ∀ a, H a ≠ none → Im S φ a → Im (fun a => S a ∨ a = D) φ a := fun a h i => ⟨fun z => z.elim i.1 fun e => h (by rw [e]; exact hD), i.2⟩
  have l : Le φ H φ (upd H D o) := r.le hD
  refine ⟨r.len, fun i w h => ?_, ⟨r.mem.len, r.mem.nd, fun a h => h.elim (r'.mem.liveS a) fun e => by rw [e, upd_same]; simp, fun a h z => z.elim (r.mem.disj a h) fun e => r.mem.live a h (by rw [e]; exact hD), r'.mem.live, fun n c a h1 h2 => ?_⟩⟩
  · obtain ⟨v, h1, h2⟩ := r.slot i w h
    exact ⟨v, h1, RV.mono l _ _ (RV.ownL im w v h2)⟩
  · have ne : a ≠ D := fun e => r.mem.live a (List.mem_of_getElem? h2) (by rw [e]; exact hD)
    have hc := r.mem.cell n c a h1 h2
    cases c with
    | lst ws =>
      obtain ⟨vs, e, q⟩ := hc
      exact ⟨vs, by rw [upd_ne ne]; exact e, RVs.mono l _ _ (RVs.ownL im _ _ q)⟩
    | ins c ks ws =>
      obtain ⟨C, dx, fs, e, h1, h2, q⟩ := hc
      exact ⟨C, dx, fs, by rw [upd_ne ne]; exact e, h1, h2, RVs.mono l _ _ (RVs.ownL im _ _ q)⟩
    | dead => trivial
/-- .. and without it -/
theorem SR.disown {D : Addr} (r : SR K ct (fun a => S a ∨ a = D) φ H ρ M σ) : SR K ct S φ H ρ M σ := by
  have im : ∀ a, H a ≠ none → Im (fun a => S a ∨ a = D) φ a → Im S φ a := fun a _ i => ⟨fun z => i.1 (.inl z), i.2⟩
  refine ⟨r.len, fun i w h => let ⟨v, h1, h2⟩ := r.slot i w h; ⟨v, h1, RV.ownL im w v h2⟩, ⟨r.mem.len, r.mem.nd, fun a h => r.mem.liveS a (.inl h), fun a h z => r.mem.disj a h (.inl z), r.mem.live, fun n c a h1 h2 => ?_⟩⟩
  have hc := r.mem.cell n c a h1 h2
  cases c with
  | lst ws => obtain ⟨vs, e, q⟩ := hc; exact ⟨vs, e, RVs.ownL im _ _ q⟩
  | ins c ks ws => obtain ⟨C, dx, fs, e, h1, h2, q⟩ := hc; exact ⟨C, dx, fs, e, h1, h2, RVs.ownL im _ _ q⟩
  | dead => trivial
theorem SR.wipe {i : Nat} (r : SR K ct S φ H ρ M σ) : SR K ct S φ H (ρ.set i none) M (L2.wipe σ [i]) := by
  have e : L2.wipe σ [i] = σ.set i none := rfl
  refine ⟨by rw [e, List.length_set, List.length_set]; exact r.len, fun j w h => ?_, r.mem⟩
  by_cases hj : i = j
  · subst hj
    by_cases hl : i < ρ.length
    · rw [List.getElem?_set_self hl] at h; cases h
    · rw [List.getElem?_eq_none (by rw [List.length_set]; omega)] at h; cases h
  · rw [List.getElem?_set_ne hj] at h
    obtain ⟨v, h1, h2⟩ := r.slot j w h
    exact ⟨v, by rw [e, List.getElem?_set_ne hj]; exact h1, h2⟩
end
theorem Le.poke {φ φ1 : List Addr} {H H1 : Hp} {D : Addr} {o : HO} (l : Le φ H φ1 H1) (hD : H D = none) : Le φ H φ1 (L2.upd H1 D o) := by
  refine ⟨l.pre, fun a u h n => ?_, fun a h => ?_, l.new⟩
  · rw [upd_ne (ne_of_none h hD)]; exact l.keep a u h n
  · by_cases e : a = D
    · rw [e, upd_same]; simp
    · rw [upd_ne e]; exact l.live a h
section
variable {X : Cx} {ct : CT} {Wx : WX} {pos : Pos}
/-- the reading of a comprehension from its function -/
theorem tLc_of {K : PySem.W.Frag} {it : DAn} {i : Nat} {t : DTn} {el : DEn} : ∀ σ H Q, rdE K ct Wx (dComp it i t el) σ H Q →
    tLc (rdG K ct Wx (RelI K ct) it) (gName i) (rdT K ct WxF t) (rdE K ct WxF el) [i] σ H Q := by
  intro σ H Q ⟨S, φ0, ρ, M, sr, q⟩
  refine ⟨S, φ0, ρ, M, sr, PostG.bind q fun φ1 H1 M1 ws J l1 sr1 rl1 q1 => ?_⟩
  intro D hD
  refine ⟨fun j m H => m = ws.length - j ∧ j ≤ ws.length ∧ ∃ φ M acc av, SR K ct (fun a => S a ∨ a = D) φ H ρ M σ ∧ Le φ1 H1 φ H ∧ H D = some (.lst av) ∧ RVs K ct (fun a => S a ∨ a = D) φ H acc av ∧
    PostG K ct Wx (RelW K ct) S φ1 H1 ρ σ ((compD i t el ρ (ws.drop j) M).nox fun ys M2 => .when ((acc ++ ys).length ≤ sizeLine) (.ok (.lst (acc ++ ys)) M2)) Q,
    ⟨ws.length, rfl, Nat.zero_le _, φ1, M1, [], [], sr1.owned hD, sr1.le hD, upd_same, RVs.nil, q1⟩, ?_⟩
  rintro j m H2 ⟨rfl, hj, φ2, M2, acc, av, sr2, l2, hDv, ra, q2⟩
  obtain ⟨y1, y2⟩ := rl1 j (fun a => S a ∨ a = D) φ2 H2 M2 l2 (fun a h z => z.elim _root_.id fun e => absurd hD (by rw [← e]; exact h)) sr2.mem
  by_cases hlt : j < ws.length
  · obtain ⟨go, yl⟩ := y1 ws[j] (by simp [hlt])
    refine .inr ⟨go, fun H' => j + 1 ≤ ws.length ∧ ∃ φ M acc av, SR K ct (fun a => S a ∨ a = D) φ H' ρ M σ ∧ Le φ1 H1 φ H' ∧ H' D = some (.lst av) ∧ RVs K ct (fun a => S a ∨ a = D) φ H' acc av ∧
      PostG K ct Wx (RelW K ct) S φ1 H1 ρ σ ((compD i t el ρ (ws.drop (j + 1)) M).nox fun ys M2 => .when ((acc ++ ys).length ≤ sizeLine) (.ok (.lst (acc ++ ys)) M2)) Q, fun H' h => ⟨ws.length - (j + 1), by omega, rfl, h⟩, fun x H3 y => ?_⟩
    obtain ⟨h3, rv⟩ := yl x H3 y
    have sr3 : SR K ct (fun a => S a ∨ a = D) φ2 H3 ρ M2 σ ∧ Le φ2 H2 φ2 H3 ∧ Le φ1 H1 φ2 H3 ∧ H3 D = some (.lst av) ∧ RVs K ct (fun a => S a ∨ a = D) φ2 H3 acc av := by
      rcases h3 with h3 | ⟨p, o, hp, h3⟩
      · rw [h3]; exact ⟨sr2, Le.refl _ _, l2, hDv, ra⟩
      · rw [h3]
        exact ⟨sr2.laid hp, sr2.le hp, l2.trans (sr2.le hp), by rw [upd_ne (ne_of_none hDv hp)]; exact hDv, RVs.mono (sr2.le hp) _ _ ra⟩
    obtain ⟨s1, s2, s3, s4, s5⟩ := sr3
    rw [List.drop_eq_getElem_cons hlt] at q2
    have sw : SR K ct (fun a => S a ∨ a = D) φ2 H3 ((ρ.set i none).set i (some ws[j])) M2 ((L2.wipe σ [i]).set i (some x)) := (SR.wipe s1).set rv
    have keepD : ∀ {φ5 H5}, Le φ2 H3 φ5 H5 → H5 D = some (.lst av) := fun {φ5 H5} l5 => l5.keep D _ s4 fun z => s1.mem.disj D z (.inr rfl)
    refine ⟨by simp [L2.wipe], ?_⟩
    unfold compD at q2
    refine ⟨fun a => S a ∨ a = D, φ2, _, M2, sw, ?_⟩
    cases et : t ((ρ.set i none).set i (some ws[j])) M2 with
    | exc c e M5 => rw [et] at q2; exact q2.elim
    | bad => rw [et] at q2; exact q2.elim
    | ok b M5 =>
      rw [et] at q2
      intro φ5 H5 b' l5 sr5 eb
      cases eb
      have su5 : SR K ct (fun a => S a ∨ a = D) φ5 H5 ρ M5 σ := ⟨s1.len, fun k w h => let ⟨v, h1, h2⟩ := s1.slot k w h; ⟨v, h1, RV.mono l5 _ _ h2⟩, sr5.mem⟩
      have q5 := q2
      cases b with
      | false =>
        rw [if_neg Bool.false_ne_true]
        exact ⟨hlt, φ5, M5, acc, av, su5, s3.trans l5, keepD l5, RVs.mono l5 _ _ s5, q5⟩
      | true =>
        rw [if_pos rfl]
        refine ⟨fun a => S a ∨ a = D, φ5, _, M5, sr5, ?_⟩
        have q5 : PostG K ct Wx (RelW K ct) S φ1 H1 ρ σ ((((el ((ρ.set i none).set i (some ws[j])) M5).nox fun y M2 => (compD i t el ρ (ws.drop (j + 1)) M2).nox fun ys M3 => .ok (y :: ys) M3)).nox fun ys M2 => .when ((acc ++ ys).length ≤ sizeLine) (.ok (.lst (acc ++ ys)) M2)) Q := q5
        cases ee : el ((ρ.set i none).set i (some ws[j])) M5 with
        | exc c e M6 => rw [ee] at q5; exact q5.elim
        | bad => rw [ee] at q5; exact q5.elim
        | ok y M6 =>
          rw [ee] at q5
          intro φ6 H6 v l6 sr6 rv6
          have q6 := q5
          have su6 : SR K ct (fun a => S a ∨ a = D) φ6 H6 ρ M6 σ := ⟨su5.len, fun k w h => let ⟨v, h1, h2⟩ := su5.slot k w h; ⟨v, h1, RV.mono l6 _ _ h2⟩, sr6.mem⟩
          have ra6 := RVs.mono (l5.trans l6) _ _ s5
          have q6 : PostG K ct Wx (RelW K ct) S φ1 H1 ρ σ (((compD i t el ρ (ws.drop (j + 1)) M6).nox fun ys M3 => .ok (y :: ys) M3).nox fun ys M2 => .when ((acc ++ ys).length ≤ sizeLine) (.ok (.lst (acc ++ ys)) M2)) Q := q6
          cases ec : compD i t el ρ (ws.drop (j + 1)) M6 with
          | exc c e M7 => rw [ec] at q6; exact q6.elim
          | bad => rw [ec] at q6; exact q6.elim
          | ok ys M7 =>
            rw [ec] at q6
            have q6 : PostG K ct Wx (RelW K ct) S φ1 H1 ρ σ (.when ((acc ++ (y :: ys)).length ≤ sizeLine) (.ok (.lst (acc ++ (y :: ys))) M7)) Q := q6
            obtain ⟨hz, q7⟩ := PostG.when q6
            have hz2 : av.length < sizeLine := by
              have := RVs.length ra6
              simp only [List.length_append, List.length_cons] at hz
              omega
            refine ⟨av, keepD (l5.trans l6), hz2, hlt, φ6, M6, acc ++ [y], av ++ [v], su6.poke (.inr rfl), (s3.trans (l5.trans l6)).poke hD, upd_same, (poke (S := fun a => S a ∨ a = D) (.inr rfl)).2 _ _ (RVs.append ra6 (RVs.one rv6)), ?_⟩
            rw [ec]
            have e7 : acc ++ [y] ++ ys = acc ++ (y :: ys) := by simp
            show PostG K ct Wx (RelW K ct) S φ1 H1 ρ σ (.when ((acc ++ [y] ++ ys).length ≤ sizeLine) (.ok (.lst (acc ++ [y] ++ ys)) M7)) Q
            rw [e7, Res.when, if_pos hz]
            exact q7
  · have e : j = ws.length := by omega
    subst e
    rw [List.drop_length] at q2
    refine .inl ⟨y2 rfl, ?_⟩
    have q2 : PostG K ct Wx (RelW K ct) S φ1 H1 ρ σ (.when ((acc ++ []).length ≤ sizeLine) (.ok (.lst (acc ++ [])) M2)) Q := q2
    rw [List.append_nil] at q2
    obtain ⟨hz, q2⟩ := PostG.when q2
    have nS : ¬ S D := fun z => sr1.mem.liveS D z hD
    have nφ : D ∉ φ2 := fun z => sr2.mem.disj D z (.inr rfl)
    exact q2 φ2 H2 _ l2 sr2.disown ⟨D, av, rfl, ⟨hDv, nS, nφ⟩, RVs.ownL (fun a _ h => ⟨fun z => h.1 (.inl z), h.2⟩) _ _ ra⟩
theorem de_comp {elt iter : Expr} {ifs : List Expr} {scope : Scope} {own : List (Str × Nat)} {x : Str} {tpos : Pos} {it : DAn} {i : Nat} {t : DTn} {el : DEn} (hv : own.map (·.2) = [i]) (hc : X.calm = true) (hN : X.N.Nodup) (hi : DI X ct Wx (.Name x tpos) iter it) (ok : BlkOk X.N X.env.scope scope own)
    (hg : ∀ (s : Shared) (H : Hp) (C : Addr) (cl : List (Str × Addr)) (fp : List Addr), PG (X.blk s H scope (compEnvC scope cl C X.env) fp) (.Name x tpos) (gName i))
    (ht : ∀ (s : Shared) (H : Hp) (C : Addr) (cl : List (Str × Addr)) (fp : List Addr), PTs (X.blk s H scope (compEnvC scope cl C X.env) fp) ifs (rdT X.K ct WxF t))
    (he : ∀ (s : Shared) (H : Hp) (C : Addr) (cl : List (Str × Addr)) (fp : List Addr), DE (X.blk s H scope (compEnvC scope cl C X.env) fp) ct WxF elt el) (hs : ∀ x, foldedSetIterable iter X.env x = pure x := by intro _; rfl) :
    DE X ct Wx (.ListComp elt [⟨.Name x tpos, iter, ifs, 0⟩] scope pos) (dComp it i t el) :=
  ⟨PE.imp (pe_lc hc hN hi.pi ok hg ht (fun s H C cl fp => (he s H C cl fp).pe) hs) fun σ H Q q => by rw [hv]; exact tLc_of σ H Q q⟩
theorem ds_setComp {j : Nat} {y : Str} {py spos : Pos} {elt iter : Expr} {ifs : List Expr} {scope : Scope} {own : List (Str × Nat)} {x : Str} {tpos : Pos} {it : DAn} {i : Nat} {t : DTn} {el : DEn} (hy : X.N[j]? = some y) (hyl : X.env.scope.names.lookup y = some .local)
    (hsw : swapsWith (.ListComp elt [⟨.Name x tpos, iter, ifs, 0⟩] scope pos) (some (.Name y py)) spos.line X.env = pure true) (hv : own.map (·.2) = [i]) (hc : X.calm = true) (hN : X.N.Nodup) (hi : DI X ct Wx (.Name x tpos) iter it) (ok : BlkOk X.N X.env.scope scope own)
    (hg : ∀ (s : Shared) (H : Hp) (C : Addr) (cl : List (Str × Addr)) (fp : List Addr), PG (X.blk s H scope (compEnvC scope cl C X.env) fp) (.Name x tpos) (gName i))
    (ht : ∀ (s : Shared) (H : Hp) (C : Addr) (cl : List (Str × Addr)) (fp : List Addr), PTs (X.blk s H scope (compEnvC scope cl C X.env) fp) ifs (rdT X.K ct WxF t))
    (he : ∀ (s : Shared) (H : Hp) (C : Addr) (cl : List (Str × Addr)) (fp : List Addr), DE (X.blk s H scope (compEnvC scope cl C X.env) fp) ct WxF elt el) (hs : ∀ x, foldedSetIterable iter X.env x = pure x := by intro _; rfl) :
    DS X ct Wx (.Assign [.Name y py] (.ListComp elt [⟨.Name x tpos, iter, ifs, 0⟩] scope pos) spos) (sSet j (dComp it i t el)) := by
  refine ⟨PS.imp (ps_setLc (g := gName i) (tt := rdT X.K ct WxF t) (te := rdE X.K ct WxF el) hc hN hy hyl hsw hi.pi ok hg ht (fun s H C cl fp => (he s H C cl fp).pe) hs) fun D σ H ⟨S, φ, ρ, M, sr, q⟩ => ?_⟩
  show tLc _ _ _ _ (own.map (·.2)) σ H fun v H1 => gName j v σ H1 D.nx
  rw [hv]
  exact tLc_of σ H _ ⟨S, φ, ρ, M, sr, PostS.to q fun φ1 H1 M1 a b l sr1 rl q1 => PostS.nx_ok (sr1.set rl) q1⟩
def dYes : DTn := fun _ M => .ok true M
theorem pts0 : PTs X [] (rdT X.K ct WxF dYes) := ⟨fun pins s σ H Q I ⟨S, φ, ρ, M, sr, q⟩ => pts_nil.run pins s σ H Q I (PostG.ok (Wx := WxF) (Rel := RelB) sr rfl q)⟩
theorem pts1 {c : Expr} {t : DTn} (h : DT X ct WxF c t) : PTs X [c] (rdT X.K ct WxF t) := pts_one h.pt
end
end LP

namespace LP
open PySem PySem.Spec L2

/-! ### more rules for reckoning: slices, texts, comprehensions, cells -/
section
variable {α β : Type} {M : Mem} {ρ : Rho} {w x y : W} {ws us : List W} {i j : Int} {b : Bool} {d e : DEn} {aa : DAn} {z z1 z2 : Str} {n k : Nat} {l h : DOn} {lo hi : Option Int} {c : Str} {ei : Option Int} {a : α}
@[simp] theorem dSl_eq : dSl d l h ρ M = (d ρ M).bind fun x M1 => (l ρ M1).bind fun lo M2 => (h ρ M2).bind fun hi M3 => vSl x lo hi M3 := (rfl)
@[simp] theorem oNone_eq : oNone ρ M = .ok none M := (rfl)
def optI (w : W) (M : Mem) : Res (Option Int) := match w with
  | .int i => .ok (some i) M
  | _ => .bad
@[simp] theorem oSome_eq : oSome d ρ M = (d ρ M).bind optI := (rfl)
@[simp] theorem optI_i : optI (.int i) M = .ok (some i) M := (rfl)
theorem sl_s (hz : z.length ≤ 16777216) : vSl (.str z) lo hi M = .ok (.str (cutS z lo hi)) M := when_t (by rw [sizeLine_eq]; exact hz)
@[simp] theorem sl_t : vSl (.tup ws) lo hi M = .ok (.tup (cutW ws lo hi)) M := (rfl)
@[simp] theorem sl_l : vSl (.lst ws) lo hi M = .ok (.lst (cutW ws lo hi)) M := (rfl)
@[simp] theorem sl_f : vSl (.fro ws) lo hi M = .ok (.lst (cutW ws lo hi)) M := (rfl)
def m1k (f : Str → W → Mem → Res α) (r : Mem → Res W) (x : W) (M : Mem) : Res α := match asZ x with
  | some z => (r M).bind fun y M2 => f z y M2
  | none => .bad
@[simp] theorem dM1_eq {f : Str → W → Mem → Res W} : dM1 f d e ρ M = (d ρ M).bind (m1k f (e ρ)) := (rfl)
@[simp] theorem dM1L_eq {f : Str → W → Mem → Res (List W)} : dM1L f d e ρ M = (d ρ M).bind (m1k f (e ρ)) := (rfl)
@[simp] theorem m1k_s {f : Str → W → Mem → Res α} {r : Mem → Res W} : m1k f r (.str z) M = (r M).bind (f z) := (rfl)
@[simp] theorem f2_ss {g : Str → Str → W} : f2 g z (.str z1) M = .ok (g z z1) M := (rfl)
theorem split_ss (h1 : (z1.length == 0) = false) (h2 : z.length + 2 ≤ 16777216) : fSplit z (.str z1) M = .ok ((Txt.split z z1).map .str) M := when_t ⟨h1, by rw [sizeLine_eq]; exact h2⟩
theorem strsOf_map (ys : List Str) : strsOf (ys.map W.str) = some ys := by
  induction ys with
  | nil => rfl
  | cons y r ih =>
    show allOf _ (W.str y :: r.map W.str) = _
    have ih : allOf _ (r.map W.str) = some r := ih
    simp only [allOf]
    rw [ih]
    rfl
theorem join_l {ys : List Str} (h : asS M w = some (ys.map .str)) (hz : (ys.map (·.length)).sum + ys.length * z.length ≤ 16777216) : fJoin z w M = .ok (.str (Txt.join z ys)) M := by
  unfold fJoin
  rw [h, Option.bind_some, strsOf_map]
  exact when_t hz
@[simp] theorem dComp_eq {it : DAn} {t : DTn} {el : DEn} : dComp it n t el ρ M = (it ρ M).bind fun ws M1 => (compD n t el ρ ws M1).nox fun ys M2 => .when (ys.length ≤ sizeLine) (.ok (.lst ys) M2) := (rfl)
@[simp] theorem nox_ok {k : α → Mem → Res β} : (Res.ok a M).nox k = k a M := (rfl)
theorem comp_map {t : DTn} {el : DEn} {p : W → Bool} {f : W → W} : ∀ {ws : List W}, (∀ w ∈ ws, t ((ρ.set n none).set n (some w)) M = .ok (p w) M) → (∀ w ∈ ws, p w = true → el ((ρ.set n none).set n (some w)) M = .ok (f w) M) → compD n t el ρ ws M = .ok ((ws.filter p).map f) M
  | [], _, _ => rfl
  | w :: ws, ht, he => by
    unfold compD
    have ih := comp_map (ws := ws) (fun u h => ht u (List.mem_cons_of_mem _ h)) fun u h => he u (List.mem_cons_of_mem _ h)
    rw [ht w (List.mem_cons_self ..), nox_ok]
    cases hp : p w with
    | false => rw [if_neg Bool.false_ne_true, ih, List.filter_cons_of_neg (by rw [hp]; exact Bool.false_ne_true)]
    | true =>
      rw [if_pos rfl, he w (List.mem_cons_self ..) hp, nox_ok, ih, nox_ok, List.filter_cons_of_pos hp, List.map_cons]
@[simp] theorem dYes_eq : dYes ρ M = .ok true M := (rfl)
-- cells
def mlk (f : Nat → List W → List W → Mem → Res W) (r : Mem → Res (List W)) (x : W) (M1 : Mem) : Res W := match asC M1 x with
  | some _ => (r M1).bind fun ys M2 => (match asC M2 x with
    | some (n, ws) => f n ws ys M2
    | none => .bad)
  | none => .bad
@[simp] theorem dMl_eq {f : Nat → List W → List W → Mem → Res W} : dMl f d aa ρ M = (d ρ M).bind (mlk f (aa ρ)) := (rfl)
def mlk2 (f : Nat → List W → List W → Mem → Res W) (x : W) (ys : List W) (M2 : Mem) : Res W := match asC M2 x with
  | some (n, ws) => f n ws ys M2
  | none => .bad
theorem mlk_at {f : Nat → List W → List W → Mem → Res W} {r : Mem → Res (List W)} (h : M[n]? = some (.lst ws)) : mlk f r (.loc n) M = (r M).bind (mlk2 f (.loc n)) := by
  have e : asC M (.loc n) = some (n, ws) := by show (cellL M[n]?).map _ = _; rw [h]; rfl
  unfold mlk
  rw [e]
  rfl
theorem mlk2_at {f : Nat → List W → List W → Mem → Res W} (h : M[n]? = some (.lst ws)) : mlk2 f (.loc n) us M = f n ws us M := by
  have e : asC M (.loc n) = some (n, ws) := by show (cellL M[n]?).map _ = _; rw [h]; rfl
  unfold mlk2
  rw [e]
@[simp] theorem mlk_0 {f : Nat → List W → List W → Mem → Res W} {r : Mem → Res (List W)} : mlk f r (.loc 0) (.lst ws :: M) = (r (.lst ws :: M)).bind (mlk2 f (.loc 0)) := (rfl)
@[simp] theorem mlk2_0 {f : Nat → List W → List W → Mem → Res W} : mlk2 f (.loc 0) us (.lst ws :: M) = f 0 ws us (.lst ws :: M) := (rfl)
@[simp] theorem mlk_1 {f : Nat → List W → List W → Mem → Res W} {r : Mem → Res (List W)} {c0 : Cell} : mlk f r (.loc 1) (c0 :: .lst ws :: M) = (r (c0 :: .lst ws :: M)).bind (mlk2 f (.loc 1)) := (rfl)
@[simp] theorem mlk2_1 {f : Nat → List W → List W → Mem → Res W} {c0 : Cell} : mlk2 f (.loc 1) us (c0 :: .lst ws :: M) = f 1 ws us (c0 :: .lst ws :: M) := (rfl)
theorem append_ok (h : ws.length < 16777216) : fAppend n ws [y] M = .ok .non (M.set n (.lst (ws ++ [y]))) := when_t (by rw [sizeLine_eq]; exact h)
theorem extend_ok (h : asL M y = some us) (hz : ws.length + us.length ≤ 16777216) : fExtend n ws [y] M = .ok .non (M.set n (.lst (ws ++ us))) := by
  unfold fExtend
  dsimp only
  rw [h]
  exact when_t (by rw [sizeLine_eq]; exact hz)
@[simp] theorem pop_ok : fPop n (ws ++ [y]) us M = .ok y (M.set n (.lst ws)) := by
  unfold fPop
  rw [List.length_append, List.length_singleton, Nat.add_sub_cancel, List.getElem?_append_right (Nat.le_refl _), Nat.sub_self, List.dropLast_concat]
  rfl
@[simp] theorem clear_ok : fClear n ws us M = .ok .non (M.set n (.lst [])) := (rfl)
@[simp] theorem isT_loc0 {t : Tg} : isT1 t (.loc 0) (.lst ws :: M) = .ok (.bl (instT .lst t)) (.lst ws :: M) := (rfl)
@[simp] theorem isT_f {t : Tg} : isT1 t (.fro ws) M = .ok (.bl (instT .lst t)) M := (rfl)
@[simp] theorem len_loc0 : fLen [.loc 0] (.lst ws :: M) = .ok (.int ws.length) (.lst ws :: M) := (rfl)
@[simp] theorem seqW_l : seqW (.lst ws) = some ws := (rfl)
@[simp] theorem seqW_t : seqW (.tup ws) = some ws := (rfl)
@[simp] theorem seqW_f : seqW (.fro ws) = some ws := (rfl)
theorem seqW_s : seqW (.str z) = some (z.cps.toList.map fun c => .str ⟨#[c]⟩) := rfl
/-- a call that hands back a value that has to be made up -/
theorem callP_re {F : FnD} {M' : Mem} {u : W} (hn : ws.length = n) (hl : lfs ws = true) (h : F ws [] = .ok w M') (hw : reify M' w = some u) : callP n F ws M = .ok u M := by
  unfold callP
  rw [if_pos ⟨hn, hl⟩, h]
  dsimp only
  rw [hw]
theorem callF_ok {F : FnD} {M' : Mem} {k : Nat} {us : List W} (hn : ws.length = n) (hl : lfs ws = true) (h : F ws [] = .ok (.loc k) M') (hk : M'[k]? = some (.lst us)) (hu : lfs us = true) : callF n F ws M = .ok (.loc M.length) (M ++ [.lst us]) := by
  unfold callF
  rw [if_pos ⟨hn, hl⟩, h]
  dsimp only
  rw [hk]
  show (if lfs us = true then _ else _) = _
  rw [if_pos hu]
theorem reify_loc {M' : Mem} {k : Nat} (hk : M'[k]? = some (.lst us)) (hu : lfs us = true) : reify M' (.loc k) = some (.lst us) := by
  unfold reify
  simp only [mapLoc]
  unfold locRes
  rw [hk]
  dsimp only
  rw [mapLocs_lf _ _ hu]
theorem lfs_strs (ys : List Str) : lfs (ys.map .str) = true := by
  induction ys with
  | nil => rfl
  | cons y r ih => exact ih
theorem lfs_append : ∀ {ws us : List W}, lfs ws = true → lfs us = true → lfs (ws ++ us) = true
  | [], _, _, h => h
  | w :: ws, us, h1, h2 => by
    have h1 : (lf w && lfs ws) = true := h1
    rw [Bool.and_eq_true] at h1
    show (lf w && lfs (ws ++ us)) = true
    rw [h1.1, lfs_append h1.2 h2]
    rfl
end

/-! ### texts as lists of numbers -/
def sg (l : List Nat) : Str := ⟨l.toArray⟩
theorem tl_sg (l : List Nat) : TL.tl (sg l) = l := rfl
theorem sg_one (c : Nat) : (⟨#[c]⟩ : Str) = sg [c] := rfl
@[simp] theorem seqW_sg (l : List Nat) : seqW (.str (sg l)) = some (l.map fun c => .str (sg [c])) := (rfl)
theorem sg_append (a b : List Nat) : sg a ++ sg b = sg (a ++ b) := TL.ext_tl (by rw [TL.tl_append]; rfl)
theorem sg_len (a : List Nat) : (sg a).length = a.length := by rw [TL.len_tl]; rfl
theorem sg_tl (z : Str) : sg (TL.tl z) = z := TL.mk_tl z
theorem sg_inj {a b : List Nat} (h : sg a = sg b) : a = b := congrArg TL.tl h
theorem sg_eq (a b : List Nat) : (sg a == sg b) = decide (a = b) := by
  by_cases h : a = b
  · subst h; simp
  · rw [decide_eq_false h]
    exact beq_eq_false_iff_ne.mpr fun e => h (sg_inj e)
theorem find_pos (x : Str) (c : Nat) : (Txt.find x (sg [c]) < 0) = (c ∉ TL.tl x) := by
  have hy : TL.tl (sg [c]) ≠ [] := by rw [tl_sg]; simp
  have at_ : ∀ i, StrLaws.At x (sg [c]) x.length i ↔ (TL.tl x)[i]? = some c := fun i => by
    rw [TL.at_iff hy i]
    show (((TL.tl x).drop i).take 1 == [c]) = true ↔ _
    rw [beq_iff_eq]
    by_cases hi : i < (TL.tl x).length
    · rw [List.drop_eq_getElem_cons hi, List.getElem?_eq_getElem hi]
      simp
    · rw [List.drop_eq_nil_of_le (by omega), List.getElem?_eq_none (by omega)]
      simp
  rcases PyProof.Rows.find_whole x (sg [c]) with ⟨h, hn⟩ | ⟨i, h, hi, _⟩
  · rw [h]
    refine propext ⟨fun _ hm => ?_, fun _ => by decide⟩
    obtain ⟨i, hi⟩ := List.getElem?_of_mem hm
    exact hn i ((at_ i).mpr hi)
  · rw [h]
    refine propext ⟨fun hlt => absurd hlt (by omega), fun hm => ?_⟩
    exact absurd (List.mem_of_getElem? ((at_ i).mp hi)) hm
theorem sLt1 (a b : Nat) : sLt (sg [a]) (sg [b]) = decide (a < b) := by
  unfold sLt
  show decide ([a] < [b]) = _
  by_cases h : a < b
  · rw [decide_eq_true h]; exact decide_eq_true (List.Lex.rel h)
  · rw [decide_eq_false h]
    refine decide_eq_false fun hc => ?_
    cases hc with
    | rel h2 => exact h h2
    | cons h2 => cases h2
theorem add_sg {a b : List Nat} {M : Mem} (h : a.length + b.length ≤ 16777216) : vAdd (.str (sg a)) (.str (sg b)) M = .ok (.str (sg (a ++ b))) M := by
  rw [add_ss (by rw [sg_len, sg_len]; exact h), sg_append]
theorem iadd_sg {a b : List Nat} {M : Mem} (h : a.length + b.length ≤ 16777216) : vIAdd (.str (sg a)) (.str (sg b)) M = .ok (.str (sg (a ++ b))) M := by
  rw [iadd_ss (by rw [sg_len, sg_len]; exact h), sg_append]
def cutN (l : List Nat) (lo hi : Option Int) : List Nat := (l.drop (HT.sIx l.length 0 lo)).take (HT.sIx l.length l.length hi - HT.sIx l.length 0 lo)
theorem cutS_sg (l : List Nat) (lo hi : Option Int) : cutS (sg l) lo hi = sg (cutN l lo hi) := by
  unfold cutS cutN
  rw [sg_len]
  rfl
theorem sl_sg {l : List Nat} {lo hi : Option Int} {M : Mem} (h : l.length ≤ 16777216) : vSl (.str (sg l)) lo hi M = .ok (.str (sg (cutN l lo hi))) M := by
  rw [sl_s (by rw [sg_len]; exact h), cutS_sg]
theorem cutN_len (l : List Nat) (lo hi : Option Int) : (cutN l lo hi).length ≤ l.length := by
  unfold cutN
  rw [List.length_take, List.length_drop]
  omega
theorem cutN_mem {l : List Nat} {lo hi : Option Int} {c : Nat} (h : c ∈ cutN l lo hi) : c ∈ l := List.mem_of_mem_drop (List.mem_of_mem_take h)
theorem len_sg {l : List Nat} {M : Mem} (h : l.length ≤ 16777216) : fLen [.str (sg l)] M = .ok (.int l.length) M := by
  rw [len_s (by rw [sg_len]; exact h), sg_len]
theorem cutS_mem {z : Str} {lo hi : Option Int} {c : Nat} (h : c ∈ TL.tl (cutS z lo hi)) : c ∈ TL.tl z := by
  unfold cutS at h
  exact List.mem_of_mem_drop (List.mem_of_mem_take h)
/-- a loop that ends at a turn with a value, or goes through -/
theorem loop_find {g : DGn} {s : DSn} {r : W} {M : Mem} {p : W → Bool} (I : Rho → Prop) : ∀ (ws : List W) (ρ : Rho), I ρ →
    (∀ w ∈ ws, ∀ ρ, I ρ → ∃ ρ1, g w ρ M = some ρ1 ∧ (if p w = true then s ρ1 M = .rt r M else ∃ ρ2, s ρ1 M = .nx ρ2 M ∧ I ρ2)) → (if ws.any p = true then loopD g s ws ρ M = .rt r M else ∃ ρ', loopD g s ws ρ M = .nx ρ' M ∧ I ρ')
  | [], ρ, h, _ => by
    rw [if_neg (by simp)]
    exact ⟨ρ, rfl, h⟩
  | w :: ws, ρ, h, hs => by
    obtain ⟨ρ1, h1, h2⟩ := hs w (List.mem_cons_self ..) ρ h
    by_cases hp : p w = true
    · rw [if_pos hp] at h2
      rw [if_pos (by rw [List.any_cons, hp]; rfl)]
      exact loop_rt h1 h2
    · rw [if_neg hp] at h2
      obtain ⟨ρ2, h2, h3⟩ := h2
      have := loop_find I ws ρ2 h3 fun u hu => hs u (List.mem_cons_of_mem _ hu)
      rw [loop_nx h1 h2]
      have e : (w :: ws).any p = ws.any p := by
        have : p w = false := by cases h : p w <;> simp_all
        rw [List.any_cons, this, Bool.false_or]
      rw [e]
      exact this
/-- a list of numbers, as the law reads it -/
structure IsScr (ns : List Int) (s : W) : Prop where
  len : ∀ M, fLen [s] M = .ok (.int ns.length) M
  ix : ∀ i : Nat, ∀ h : i < ns.length, ∀ M, vIx s (.int (i : Nat)) M = .ok (.int ns[i]) M
  lf : lf s = true
theorem isScr_fro (ns : List Int) : IsScr ns (.fro (ns.map .int)) := ⟨fun _ => by rw [len_f, List.length_map], fun i h M => ix_f (by rw [atI_in (by omega) (by simpa using h)]; simp), lfs_ints ns⟩
theorem isScr_lst (ns : List Int) : IsScr ns (.lst (ns.map .int)) := ⟨fun _ => by rw [len_l, List.length_map], fun i h M => ix_l (by rw [atI_in (by omega) (by simpa using h)]; simp), lfs_ints ns⟩
theorem cutW_map {α : Type} (f : α → W) (xs : List α) (lo hi : Option Int) : cutW (xs.map f) lo hi = ((xs.drop (HT.sIx xs.length 0 lo)).take (HT.sIx xs.length xs.length hi - HT.sIx xs.length 0 lo)).map f := by
  unfold cutW
  rw [List.length_map, List.map_take, List.map_drop]
theorem weq_strs : ∀ ys : List Str, weqs (ys.map .str) (ys.map .str) = true
  | [] => rfl
  | y :: r => by
    show (weq (.str y) (.str y) && weqs (r.map .str) (r.map .str)) = true
    rw [weq_strs r]
    simp [weq]
/-- lines as one text -/
def txt (ls : List (List Nat)) : Str := Txt.join (sg [10]) (ls.map sg)
theorem txt_split {ls : List (List Nat)} (h0 : ls ≠ []) (h : ∀ l ∈ ls, 10 ∉ l) : Txt.split (txt ls) (sg [10]) = ls.map sg := by
  refine TL.split_join (s := 10) (S := []) rfl (by decide +kernel) (fun e => h0 (List.map_eq_nil_iff.mp e)) fun p hp => ?_
  obtain ⟨l, hl, rfl⟩ := List.mem_map.mp hp
  exact h l hl
theorem joinL_len {b : Nat} : ∀ {ps : List (List Nat)}, (∀ p ∈ ps, p.length ≤ b) → (TL.joinL [10] ps).length ≤ ps.length * (b + 1)
  | [], _ => Nat.zero_le _
  | [p], h => by
    have := h p (List.mem_cons_self ..)
    show p.length ≤ _
    simp only [List.length_cons, List.length_nil]
    omega
  | p :: q :: r, h => by
    have h1 := h p (List.mem_cons_self ..)
    have ih := joinL_len (ps := q :: r) fun x hx => h x (List.mem_cons_of_mem _ hx)
    show (p ++ ([10] ++ TL.joinL [10] (q :: r))).length ≤ (q :: r).length.succ * (b + 1)
    rw [List.length_append, List.length_append, Nat.succ_mul]
    simp only [List.length_cons, List.length_nil] at ih ⊢
    omega
theorem txt_len {ls : List (List Nat)} {b : Nat} (h : ∀ l ∈ ls, l.length ≤ b) : (txt ls).length ≤ ls.length * (b + 1) := by
  unfold txt
  rw [TL.len_tl, TL.join_eq, TL.tl_join, List.map_map]
  have e : ls.map (TL.tl ∘ sg) = ls := by
    rw [show (TL.tl ∘ sg) = _root_.id from rfl, List.map_id]
  rw [e]
  exact joinL_len h
theorem sum_le {b : Nat} : ∀ {ls : List (List Nat)}, (∀ l ∈ ls, l.length ≤ b) → ((ls.map sg).map (·.length)).sum ≤ ls.length * b
  | [], _ => Nat.zero_le _
  | l :: r, h => by
    have h1 := h l (List.mem_cons_self ..)
    have ih := sum_le (ls := r) fun x hx => h x (List.mem_cons_of_mem _ hx)
    simp only [List.map_cons, List.sum_cons, List.length_cons, sg_len, Nat.succ_mul] at ih ⊢
    omega
abbrev lW (ls : List (List Nat)) : List W := ls.map fun l => .str (sg l)
theorem lW_eq (ls : List (List Nat)) : lW ls = (ls.map sg).map .str := by rw [List.map_map]; rfl
theorem lW_lf (ls : List (List Nat)) : lfs (lW ls) = true := by rw [lW_eq]; exact lfs_strs _
theorem split_txt {ls : List (List Nat)} {M : Mem} {b : Nat} (h0 : ls ≠ []) (h : ∀ l ∈ ls, 10 ∉ l) (hb : ∀ l ∈ ls, l.length ≤ b) (hz : ls.length * (b + 1) ≤ 16000000) : fSplit (txt ls) (.str (sg [10])) M = .ok (lW ls) M := by
  have := txt_len hb
  rw [split_ss (by rw [sg_len]; rfl) (by omega), txt_split h0 h, lW_eq]
theorem join_txt {ls : List (List Nat)} {M : Mem} {b : Nat} {w : W} (hw : asS M w = some (lW ls)) (hb : ∀ l ∈ ls, l.length ≤ b) (hz : ls.length * (b + 1) ≤ 16000000) : fJoin (sg [10]) w M = .ok (.str (txt ls)) M := by
  have := sum_le hb
  rw [lW_eq] at hw
  rw [join_l hw (by rw [List.length_map, sg_len, List.length_singleton]; rw [Nat.mul_succ] at hz; omega)]
  rfl
theorem sg_data {l : List Nat} (h : ∀ c ∈ l, c < 1114112) : dataW (.str (sg l)) = true := by
  show (sg l).cps.all _ = true
  rw [Array.all_eq_true_iff_forall_mem]
  intro c hc
  exact decide_eq_true (h c (show c ∈ TL.tl (sg l) from Array.mem_toList_iff.mpr hc))
theorem lW_data : ∀ {ls : List (List Nat)}, (∀ l ∈ ls, ∀ c ∈ l, c < 1114112) → dataWs (lW ls) = true ∧ wdeps (lW ls) = 0
  | [], _ => ⟨rfl, rfl⟩
  | l :: r, h => by
    obtain ⟨h1, h2⟩ := lW_data (ls := r) fun x hx => h x (List.mem_cons_of_mem _ hx)
    refine ⟨?_, ?_⟩
    · show (dataW (.str (sg l)) && dataWs (lW r)) = true
      rw [sg_data (h l (List.mem_cons_self ..)), h1]
      rfl
    · show max 0 (wdeps (lW r)) = 0
      rw [h2]
      rfl
theorem lW_okD {ls : List (List Nat)} (h : ∀ l ∈ ls, ∀ c ∈ l, c < 1114112) : okD (.lst (lW ls)) := by
  obtain ⟨h1, h2⟩ := lW_data h
  refine ⟨h1, ?_⟩
  show wdeps (lW ls) + 1 ≤ 64
  omega
theorem isT_cell {t : Tg} {n : Nat} {ws : List W} {M : Mem} (h : M[n]? = some (.lst ws)) : isT1 t (.loc n) M = .ok (.bl (instT .lst t)) M := by
  have e : tagW M (.loc n) = some .lst := by
    show (cellL M[n]?).map _ = _
    rw [h]; rfl
  unfold isT1
  rw [e]
theorem look_cell {n : Nat} {ws : List W} {M : Mem} (h : M[n]? = some (.lst ws)) : look M (.loc n) = .lst ws := by
  show orW _ (cellL _) = _
  rw [h]; rfl
theorem asL_cell {n : Nat} {ws : List W} {M : Mem} (h : M[n]? = some (.lst ws)) : asL M (.loc n) = some ws := by
  show cellL _ = _
  rw [h]; rfl
theorem intsOf_map (ns : List Int) : intsOf (ns.map W.int) = some ns := by
  induction ns with
  | nil => rfl
  | cons y r ih =>
    show allOf _ (W.int y :: r.map W.int) = _
    have ih : allOf _ (r.map W.int) = some r := ih
    simp only [allOf]
    rw [ih]
    rfl
theorem max_li {ns : List Int} {M : Mem} (h : 0 < ns.length) : fMax [.lst (ns.map .int)] M = .ok (.int (maxI ns)) M := by
  show (match (some (ns.map W.int)).bind intsOf with | some ns => Res.when (0 < ns.length) (.ok (W.int (maxI ns)) M) | none => .bad) = _
  rw [Option.bind_some, intsOf_map]
  exact when_t h
theorem min_li {ns : List Int} {M : Mem} (h : 0 < ns.length) : fMin [.lst (ns.map .int)] M = .ok (.int (minI ns)) M := by
  show (match (some (ns.map W.int)).bind intsOf with | some ns => Res.when (0 < ns.length) (.ok (W.int (minI ns)) M) | none => .bad) = _
  rw [Option.bind_some, intsOf_map]
  exact when_t h
theorem sum_li {ns : List Int} {M : Mem} : fSum [.lst (ns.map .int)] M = .ok (.int ns.sum) M := by
  show (match (some (ns.map W.int)).bind intsOf with | some ns => Res.ok (W.int ns.sum) M | none => .bad) = _
  rw [Option.bind_some, intsOf_map]
theorem minI_mem : ∀ {ns : List Int}, 0 < ns.length → minI ns ∈ ns
  | [x], _ => List.mem_singleton.mpr rfl
  | x :: y :: r, _ => by
    have ih := minI_mem (ns := y :: r) (by simp)
    show min x (minI (y :: r)) ∈ _
    by_cases h : x ≤ minI (y :: r)
    · rw [show min x (minI (y :: r)) = x by omega]; exact List.mem_cons_self
    · rw [show min x (minI (y :: r)) = minI (y :: r) by omega]; exact List.mem_cons_of_mem _ ih
theorem minI_le : ∀ {ns : List Int} {y : Int}, y ∈ ns → minI ns ≤ y
  | [x], y, h => by rw [List.mem_singleton.mp h]; exact Int.le_refl _
  | x :: z :: r, y, h => by
    show min x (minI (z :: r)) ≤ y
    rcases List.mem_cons.mp h with e | e
    · omega
    · have ih := minI_le (ns := z :: r) e
      omega
theorem maxI_mem : ∀ {ns : List Int}, 0 < ns.length → maxI ns ∈ ns
  | [x], _ => List.mem_singleton.mpr rfl
  | x :: y :: r, _ => by
    have ih := maxI_mem (ns := y :: r) (by simp)
    show max x (maxI (y :: r)) ∈ _
    by_cases h : maxI (y :: r) ≤ x
    · rw [show max x (maxI (y :: r)) = x by omega]; exact List.mem_cons_self
    · rw [show max x (maxI (y :: r)) = maxI (y :: r) by omega]; exact List.mem_cons_of_mem _ ih
@[simp] theorem is_nn {k : Bool → Bool} {M : Mem} : vIs k .non .non M = .ok (.bl (k true)) M := (rfl)
@[simp] theorem is_tn {k : Bool → Bool} {ws : List W} {M : Mem} : vIs k (.tup ws) .non M = .ok (.bl (k false)) M := (rfl)
theorem cutW_init (ws : List W) (h : ws ≠ []) : cutW ws none (some (-1)) = ws.dropLast := by
  have hl : 0 < ws.length := List.length_pos_iff.mpr h
  unfold cutW
  have e : HT.sIx ws.length ws.length (some (-1)) = ws.length - 1 := by
    show (if (-1 : Int) < 0 then ((-1 : Int) + (ws.length : Int)).toNat else min (-1 : Int).toNat ws.length) = _
    rw [if_pos (by decide)]
    omega
  rw [e, List.dropLast_eq_take]
  rfl
@[simp] theorem when_true {α : Type} {r : Res α} : Res.when True r = r := if_pos trivial
theorem mem_dropLast {α : Type} {x : α} {l : List α} (h : x ∈ l.dropLast) : x ∈ l := by
  rw [List.dropLast_eq_take] at h
  exact List.mem_of_mem_take h
@[simp] theorem nc0 : ((0 : Nat) : Int) = 0 := (rfl)
@[simp] theorem nc1 : ((1 : Nat) : Int) = 1 := (rfl)
@[simp] theorem nc2 : ((2 : Nat) : Int) = 2 := (rfl)
@[simp] theorem nc3 : ((3 : Nat) : Int) = 3 := (rfl)
@[simp] theorem nc4 : ((4 : Nat) : Int) = 4 := (rfl)
@[simp] theorem nc5 : ((5 : Nat) : Int) = 5 := (rfl)
@[simp] theorem nc6 : ((6 : Nat) : Int) = 6 := (rfl)
@[simp] theorem nc7 : ((7 : Nat) : Int) = 7 := (rfl)
@[simp] theorem nc8 : ((8 : Nat) : Int) = 8 := (rfl)
end LP

namespace LP
open PySem PySem.Spec L2

/-! ### several names at once -/
def gNs : List Nat → List W → Rho → Option Rho
  | [], [], ρ => some ρ
  | i :: is, w :: ws, ρ => gNs is ws (ρ.set i (some w))
  | _, _, _ => none
def rdTgs (K : PySem.W.Frag) (ct : CT) (is : List Nat) : TGs := fun vs σ H Q => ∃ S φ ρ M ws, SR K ct S φ H ρ M σ ∧ RVs K ct S φ H ws vs ∧ match gNs is ws ρ with
  | some ρ' => ∀ σ', SR K ct S φ H ρ' M σ' → Q σ' H
  | none => False
structure DGs (X : Cx) (ct : CT) (ts : List Expr) (is : List Nat) : Prop where
  pgs : PGs X ts (rdTgs X.K ct is)
theorem PGs.imp {X : Cx} {ts : List Expr} {t t' : TGs} (h : PGs X ts t) (i : ∀ vs σ H Q, t' vs σ H Q → t vs σ H Q) : PGs X ts t' := ⟨fun pins s σ H vs us Q I r q => h.run pins s σ H vs us Q I r (i vs σ H Q q)⟩
section
variable {X : Cx} {ct : CT} {Wx : WX} {pos : Pos} {d : DEn} {e : Expr}
theorem dgs_nil : DGs X ct [] [] := ⟨PGs.imp pgs_nil fun vs σ H Q ⟨S, φ, ρ, M, ws, sr, rv, q⟩ => by
  cases ws with
  | nil => rw [show vs = [] from rv]; exact ⟨rfl, q σ sr⟩
  | cons w ws => exact (show False from q).elim⟩
theorem dgs_name {i : Nat} {is : List Nat} {x : Str} {es : List Expr} (hN : X.N.Nodup) (hi : X.N[i]? = some x) (hx : Loc X.env.scope x) (h2 : DGs X ct es is)
    (hs : (assignEach (.Name x pos :: es) X.env).map (·.2) = assign (.Name x pos) X.env :: (assignEach es X.env).map (·.2) := by rfl)
    (hf : X.fn x = true ∨ X.env.scope.names.lookup x = some .local := by first | exact .inl rfl | exact .inr rfl | assumption) : DGs X ct (.Name x pos :: es) (i :: is) :=
  ⟨PGs.imp (pgs_cons (pg_name hN hi hx hf) h2.pgs hs) fun vs σ H Q ⟨S, φ, ρ, M, ws, sr, rv, q⟩ => by
    cases ws with
    | nil => exact (show False from q).elim
    | cons w ws =>
      obtain ⟨v, r, e, h1, h2⟩ := rv
      exact ⟨v, r, e, S, φ, ρ.set i (some w), M, ws, sr.set h1, h2, q⟩⟩
theorem gNs_len : ∀ {is : List Nat} {ws : List W} {ρ ρ' : Rho}, gNs is ws ρ = some ρ' → ws.length = is.length
  | [], [], _, _, _ => rfl
  | i :: is, w :: ws, ρ, ρ', h => by
    show ws.length + 1 = is.length + 1
    rw [gNs_len (is := is) (ws := ws) h]
  | [], _ :: _, _, _, h => nomatch h
  | _ :: _, [], _, _, h => nomatch h
/-- (a, b) = a tuple -/
def gT (is : List Nat) : DGn := fun w ρ _ => match asT w with
  | some ws => gNs is ws ρ
  | none => none
theorem dg_tup {es : List Expr} {k : Nat} {is : List Nat} (hc : X.calm = true) (h : DGs X ct es is) (hn : (assignEach es X.env).length = is.length := by rfl) (hst : (assignEach es X.env).findIdx? (·.1) = none := by rfl) : DG X ct (.Tuple es k pos) (gT is) :=
  ⟨PG.imp (pg_tup hc h.pgs hn hst) fun v σ H Q ⟨S, φ, ρ, M, w, sr, rv, q⟩ => by
    unfold gT at q
    cases ew : asT w with
    | none => rw [ew] at q; exact q.elim
    | some ws =>
      rw [ew] at q
      have q : (match gNs is ws ρ with | some ρ' => ∀ σ', SR X.K ct S φ H ρ' M σ' → Q σ' H | none => False) := q
      obtain ⟨a, vs, e1, h1, r1⟩ := asT_ok rv ew
      refine ⟨a, vs, e1, h1, ?_, S, φ, ρ, M, ws, sr, r1, q⟩
      cases eg : gNs is ws ρ with
      | none => rw [eg] at q; exact q.elim
      | some ρ' => rw [← RVs.length r1]; exact gNs_len eg⟩
/-- (a, b) = a list -/
def gU (is : List Nat) : DGn := fun w ρ M => match asQ M w with
  | some ws => gNs is ws ρ
  | none => none
theorem dg_unl {es : List Expr} {k : Nat} {is : List Nat} (hc : X.calm = true) (h : DGs X ct es is) (hn : (assignEach es X.env).length = is.length := by rfl) (hst : (assignEach es X.env).findIdx? (·.1) = none := by rfl) : DG X ct (.Tuple es k pos) (gU is) :=
  ⟨PG.imp (pg_unl hc h.pgs hn hst) fun v σ H Q ⟨S, φ, ρ, M, w, sr, rv, q⟩ => by
    unfold gU at q
    cases ew : asQ M w with
    | none => rw [ew] at q; exact q.elim
    | some ws =>
      rw [ew] at q
      have q : (match gNs is ws ρ with | some ρ' => ∀ σ', SR X.K ct S φ H ρ' M σ' → Q σ' H | none => False) := q
      obtain ⟨a, vs, e1, h1, r1⟩ := asQ_ok sr.mem rv ew
      refine ⟨a, vs, e1, h1, ?_, S, φ, ρ, M, ws, sr, r1, q⟩
      cases eg : gNs is ws ρ with
      | none => rw [eg] at q; exact q.elim
      | some ρ' => rw [← RVs.length r1]; exact gNs_len eg⟩
/-- target = e -/
def sAsg (g : DGn) (d : DEn) : DSn := fun ρ M => (d ρ M).to ρ fun w M1 => match g w ρ M1 with
  | some ρ' => .nx ρ' M1
  | none => .bad
theorem ds_asg {tg : Expr} {g : DGn} (he : DE X ct Wx e d) (hg : DG X ct tg g) (hs : swapsWithSole [tg] e pos.line X.env = pure false := by rfl) (hw : swappedStores [tg] e X.env = pure none := by rfl)
    (h1 : (assignEach [tg] X.env).map (·.2) = [assign tg X.env] := by rfl) : DS X ct Wx (.Assign [tg] e pos) (sAsg g d) :=
  ⟨PS.imp (ps_asg he.pe hg.pg hs hw h1) fun D σ H ⟨S, φ, ρ, M, sr, q⟩ => ⟨S, φ, ρ, M, sr, PostS.to q fun φ1 H1 M1 w v l1 sr1 r1 q1 => ⟨S, φ1, ρ, M1, w, sr1, r1, by
    cases eg : g w ρ M1 with
    | none => rw [eg] at q1; exact q1.elim
    | some ρ' => rw [eg] at q1; exact fun σ' sr' => PostS.nx_ok sr' q1⟩⟩⟩
/-- o[i] = e -/
def sPut (dv dob di : DEn) : DSn := fun ρ M => (dv ρ M).to ρ fun v M1 => (dob ρ M1).to ρ fun o M2 => (di ρ M2).to ρ fun i M3 => match asC M3 o, asI i with
  | some (n, ws), some k => (match ixN ws.length k with
    | some j => .nx ρ (M3.set n (.lst (ws.set j v)))
    | none => .bad)
  | _, _ => .bad
theorem ds_put {o i : Expr} {tpos : Pos} {dv dob di : DEn} (he : DE X ct Wx e dv) (ho : DE X ct Wx o dob) (hi : DE X ct Wx i di)
    (ha : ∀ v, assign (.Subscript o i tpos) X.env v = (do
      let ov ← holding [v] (eval o X.env)
      let iv ← holding [v, ov] (eval i X.env)
      standAt tpos
      holding [v, ov, iv] (setItem ov iv v)
      release [v, ov, iv] []) := by intro _; rfl)
    (hs : swapsWithSole [.Subscript o i tpos] e pos.line X.env = pure false := by rfl) (hw : swappedStores [.Subscript o i tpos] e X.env = pure none := by rfl)
    (h1 : (assignEach [.Subscript o i tpos] X.env).map (·.2) = [assign (.Subscript o i tpos) X.env] := by rfl) : DS X ct Wx (.Assign [.Subscript o i tpos] e pos) (sPut dv dob di) :=
  ⟨PS.imp (ps_asg he.pe (pg_sub ho.pe hi.pe set_list ha) hs hw h1) fun D σ H ⟨S, φ, ρ, M, sr, q⟩ => ⟨S, φ, ρ, M, sr, PostS.to q fun φ1 H1 M1 w v l1 sr1 r1 q1 =>
    ⟨S, φ1, ρ, M1, sr1, PostS.to q1 fun φ2 H2 M2 wo vo l2 sr2 r2 q2 => ⟨S, φ2, ρ, M2, sr2, PostS.to q2 fun φ3 H3 M3 wi vi l3 sr3 r3 q3 => by
      cases ec : asC M3 wo with
      | none => rw [ec] at q3; exact q3.elim
      | some p =>
        obtain ⟨n, ws⟩ := p
        cases ei : asI wi with
        | none => rw [ec, ei] at q3; exact q3.elim
        | some k =>
          rw [ec, ei] at q3
          dsimp only at q3
          obtain ⟨a, vs, e1, e2, h1, h2, h3⟩ := asC_ok sr3.mem (RV.mono l3 _ _ r2) ec
          rw [asI_eq ei] at r3
          cases ej : ixN ws.length k with
          | none => rw [ej] at q3; exact q3.elim
          | some j =>
            rw [ej] at q3
            have rw1 := RV.mono (l2.trans l3) _ _ r1
            have l : Le φ3 H3 φ3 (upd H3 a (.lst (vs.set j v))) := Le.write (List.mem_of_getElem? h1)
            have rs := RVs.mono l _ _ (RVs.set rw1 j h3)
            have sr4 := sr3.write (c := .lst (ws.set j w)) h1 ⟨_, upd_same, rs⟩
            exact ⟨a, vs, k, j, e2, r3, h2, by rw [← RVs.length h3]; exact ej, PostS.nx_ok sr4 (PostS.le l q3)⟩⟩⟩⟩⟩
end
end LP

namespace LP
open PySem PySem.Spec L2

/-! ### {"a": x, ..}[e] -/
def keyOf : List Str → List V → List (Key × V)
  | k :: ks, v :: vs => (.inr k, v) :: keyOf ks vs
  | _, _ => []
def pairOf : List Str → List V → List (V × V)
  | k :: ks, v :: vs => (.str k, v) :: pairOf ks vs
  | _, _ => []
theorem pairOf_key : ∀ (ks : List Str) (vs : List V), pairOf ks vs = (keyOf ks vs).map fun kv => (kV kv.1, kv.2)
  | [], _ => by cases ‹List V› <;> rfl
  | _ :: _, [] => rfl
  | k :: ks, v :: vs => by
    show (V.str k, v) :: pairOf ks vs = _
    rw [pairOf_key ks vs]
    rfl
def pickK : List Str → List W → Str → Option W
  | k :: ks, w :: ws, z => if k = z then some w else pickK ks ws z
  | _, _, _ => none
theorem keyOf_fst : ∀ {ks : List Str} {vs : List V}, ks.length = vs.length → (keyOf ks vs).map (·.1) = ks.map .inr
  | [], [], _ => rfl
  | k :: ks, v :: vs, h => by
    show (Sum.inr k : Key) :: (keyOf ks vs).map (·.1) = _
    rw [keyOf_fst (by simpa using h)]
    rfl
theorem keyOf_len : ∀ {ks : List Str} {vs : List V}, ks.length = vs.length → (keyOf ks vs).length = ks.length
  | [], [], _ => rfl
  | k :: ks, v :: vs, h => by
    show (keyOf ks vs).length + 1 = ks.length + 1
    rw [keyOf_len (by simpa using h)]
theorem valV_merge (z : Key) : ∀ (more kvs : List (Key × V)), valV kvs z = none ∨ valV more z = none → (more.map (·.1)).Nodup → valV (mergeK kvs more) z = (valV more z).or (valV kvs z)
  | [], kvs, _, _ => rfl
  | p :: r, kvs, h, hn => by
    show valV (mergeK (putK kvs p.1 p.2) r) z = _
    have hn' : (r.map (·.1)).Nodup := (List.nodup_cons.mp hn).2
    by_cases e : p.1 = z
    · have hr : valV r z = none := by
        cases hv : valV r z with
        | none => rfl
        | some v =>
          have : z ∈ r.map (·.1) := by
            have q : (r.any fun kv => decide (kv.1 = z)) = true := by rw [valV_any, hv]; rfl
            obtain ⟨p', hp, e'⟩ := List.any_eq_true.mp q
            exact List.mem_map.mpr ⟨p', hp, of_decide_eq_true e'⟩
          rw [← e] at this
          exact absurd this (List.nodup_cons.mp hn).1
      rw [valV_merge z r _ (.inr hr) hn', hr, valV_put, if_pos e.symm, valV_pos e]
      rfl
    · have hv := valV_put kvs p.1 z p.2
      rw [if_neg (fun q => e q.symm)] at hv
      rw [valV_neg e] at h ⊢
      rw [valV_merge z r _ (by rw [hv]; exact h) hn', hv]
theorem valV_keyOf {K : PySem.W.Frag} {ct : CT} {S : Addr → Prop} {φ : List Addr} {H : Hp} {z : Str} : ∀ {ks : List Str} {ws : List W} {vs : List V} {w : W}, RVs K ct S φ H ws vs → pickK ks ws z = some w → ∃ v, valV (keyOf ks vs) (.inr z) = some v ∧ RV K ct S φ H w v
  | [], _, _, _, _, h => nomatch h
  | _ :: _, [], _, _, _, h => nomatch h
  | k :: ks, u :: ws, _, w, ⟨v, r, e, h1, h2⟩, h => by
    subst e
    show ∃ v', valV ((Sum.inr k, v) :: keyOf ks r) (.inr z) = some v' ∧ _
    unfold pickK at h
    by_cases hk : k = z
    · rw [if_pos hk] at h
      cases h
      exact ⟨v, valV_pos (by rw [hk]), h1⟩
    · rw [if_neg hk] at h
      obtain ⟨v', q1, q2⟩ := valV_keyOf h2 h
      exact ⟨v', by rw [valV_neg (fun q => hk (Sum.inr.inj q))]; exact q1, q2⟩
structure DPs (X : Cx) (ct : CT) (Wx : WX) (pos : Pos) (keys : List (Option Expr)) (values : List Expr) (ks : List Str) (da : DAn) : Prop where
  ex : ∃ trs, PPs X pos keys values trs ∧ ∀ S φ H ρ M σ (Q : List (V × V) → Hp → Prop), SR X.K ct S φ H ρ M σ → PostG X.K ct Wx (RelWs X.K ct) S φ H ρ σ (da ρ M) (fun vs H1 => vs.length = ks.length → Q (pairOf ks vs) H1) → tPairs trs σ H Q
section
variable {X : Cx} {ct : CT} {Wx : WX} {pos : Pos}
theorem dp_nil : DPs X ct Wx pos [] [] [] dNil := ⟨[], pps_nil, fun S φ H ρ M σ Q sr q => PostG.ok (Wx := Wx) (Rel := RelWs X.K ct) (a := []) sr rfl q rfl⟩
theorem dp_cons {k : Str} {j : Nat} {kp : Pos} {v : Expr} {keys : List (Option Expr)} {values : List Expr} {ks : List Str} {d : DEn} {da : DAn} (hv : DE X ct Wx v d) (hr : DPs X ct Wx pos keys values ks da) : DPs X ct Wx pos (some (.Constant (.str k) j kp) :: keys) (v :: values) (k :: ks) (dCons d da) := by
  obtain ⟨trs, h1, h2⟩ := hr.ex
  refine ⟨(tC (.str k), rdE X.K ct Wx d) :: trs, pps_cons pe_str hv.pe h1, fun S φ H ρ M σ Q sr q => ?_⟩
  show rdE X.K ct Wx d σ H _
  refine ⟨S, φ, ρ, M, sr, PostG.bind q fun φ1 H1 M1 w u l1 sr1 r1 q1 => h2 S φ1 H1 ρ M1 σ _ sr1 (PostG.bind q1 fun φ2 H2 M2 ws vs l2 sr2 r2 q2 hl => ?_)⟩
  exact PostG.ok (Wx := Wx) (Rel := RelWs X.K ct) (a := w :: ws) (b := u :: vs) sr2 ⟨u, vs, rfl, RV.mono l2 _ _ r1, r2⟩ q2 (by rw [List.length_cons, List.length_cons, hl])
def dPick (ks : List Str) (da : DAn) (e : DEn) : DEn := fun ρ M => (da ρ M).bind fun ws M1 => if ws.length = ks.length then ((e ρ M1).bind fun x M2 => match asZ x with
  | some z => (match pickK ks ws z with
    | some w => .ok w M2
    | none => .bad)
  | none => .bad) else .bad
theorem de_pick {keys : List (Option Expr)} {values : List Expr} {ks : List Str} {da : DAn} {e : Expr} {d : DEn} {p1 : Pos} (hu : X.A.units + 64 < cLine) (h : DPs X ct Wx p1 keys values ks da) (he : DE X ct Wx e d)
    (hall : keys.all (·.isSome) = true := by rfl) (hl : keys.length = values.length := by rfl) (h0 : keys ≠ [] := by exact List.cons_ne_nil _ _) (h15 : keys.length ≤ 15 := by exact Nat.le_of_ble_eq_true rfl) (hks : ks.length ≤ 15 := by exact Nat.le_of_ble_eq_true rfl) (hn : ks.Nodup := by decide +kernel) (hs : NoSl e := by intro _ _; rfl) :
    DE X ct Wx (.Subscript (.Dict keys values p1) e pos) (dPick ks da d) := by
  obtain ⟨trs, h1, h2⟩ := h.ex
  refine ⟨PE.imp (pe_dget (by omega) (pe_disp h1 hall hl h0 h15) he.pe hs) fun σ H Q ⟨S, φ, ρ, M, sr, q⟩ => ?_⟩
  show tDisp trs σ H _
  intro p hp
  have l0 : Le φ H φ (upd H p (.dK [])) := sr.le hp
  have srO : SR X.K ct (fun a => S a ∨ a = p) φ (upd H p (.dK [])) ρ M σ := sr.owned hp
  have nS : ¬ S p := fun z => sr.mem.liveS p z hp
  have nφ : p ∉ φ := fun z => sr.mem.live p z hp
  have im : ∀ φ' a, Im (fun a => S a ∨ a = p) φ' a → Im S φ' a := fun φ' a i => ⟨fun z => i.1 (.inl z), i.2⟩
  refine h2 _ φ _ ρ M σ _ srO ?_
  have q : PostG X.K ct Wx (RelW X.K ct) S φ H ρ σ ((da ρ M).bind fun ws M1 => if ws.length = ks.length then ((d ρ M1).bind fun x M2 => match asZ x with
    | some z => (match pickK ks ws z with
      | some w => .ok w M2
      | none => .bad)
    | none => .bad) else .bad) Q := q
  cases ea : da ρ M with
  | bad => rw [ea] at q; exact q
  | exc c e0 M1 =>
    rw [ea] at q
    exact fun φ1 H1 cls dd l1 sr1 x => q φ1 H1 cls dd (l0.trans l1) sr1.disown x
  | ok ws M1 =>
    rw [ea] at q
    intro φ1 H1 vs l1 sr1 r1 hlen
    have hp1 : H1 p = some (.dK []) := l1.keep p _ upd_same nφ
    have hw : ws.length = ks.length := by rw [RVs.length r1]; exact hlen
    refine ⟨hp1, keyOf ks vs, pairOf_key ks vs, by rw [keyOf_len hlen.symm]; exact hks, ?_⟩
    have sr2 : SR X.K ct (fun a => S a ∨ a = p) φ1 (upd H1 p (.dK (mergeK [] (keyOf ks vs)))) ρ M1 σ := sr1.poke (.inr rfl)
    have r2 := (poke (K := X.K) (ct := ct) (S := fun a => S a ∨ a = p) (φ := φ1) (H := H1) (o := .dK (mergeK [] (keyOf ks vs))) (D := p) (.inr rfl)).2 _ _ r1
    have l2 : Le φ H φ1 (upd H1 p (.dK (mergeK [] (keyOf ks vs)))) := (l0.trans l1).poke hp
    refine ⟨_, φ1, ρ, M1, sr2, ?_⟩
    have q : PostG X.K ct Wx (RelW X.K ct) S φ H ρ σ (if ws.length = ks.length then ((d ρ M1).bind fun x M2 => match asZ x with
      | some z => (match pickK ks ws z with
        | some w => .ok w M2
        | none => .bad)
      | none => .bad) else .bad) Q := q
    rw [if_pos hw] at q
    cases ed : d ρ M1 with
    | bad => rw [ed] at q; exact q
    | exc c e0 M2 =>
      rw [ed] at q
      exact fun φ3 H3 cls dd l3 sr3 x => q φ3 H3 cls dd (l2.trans l3) sr3.disown x
    | ok x M2 =>
      rw [ed] at q
      intro φ3 H3 y l3 sr3 r3
      have q : PostG X.K ct Wx (RelW X.K ct) S φ H ρ σ (match asZ x with
        | some z => (match pickK ks ws z with
          | some w => .ok w M2
          | none => .bad)
        | none => .bad) Q := q
      cases ez : asZ x with
      | none => rw [ez] at q; exact q.elim
      | some z =>
        rw [ez] at q
        dsimp only at q
        cases ek : pickK ks ws z with
        | none => rw [ek] at q; exact q.elim
        | some w =>
          rw [ek] at q
          obtain ⟨v, v1, v2⟩ := valV_keyOf r2 ek
          have hp3 : H3 p = some (.dK (mergeK [] (keyOf ks vs))) := l3.keep p _ upd_same fun z => sr1.mem.disj p z (.inr rfl)
          have hnd : ((keyOf ks vs).map (·.1)).Nodup := by
            rw [keyOf_fst hlen.symm]
            exact List.Pairwise.map _ (fun a b hab e => hab (Sum.inr.inj e)) hn
          have hv : valV (mergeK [] (keyOf ks vs)) (.inr z) = some v := by
            rw [valV_merge _ _ _ (.inl rfl) hnd, v1]
            rfl
          refine ⟨p, v, rfl, ?_, q φ3 H3 v (l2.trans l3) sr3.disown (RV.ownL (fun a _ h => im _ a h) _ _ (RV.mono l3 _ _ v2))⟩
          rw [asZ_ok r3 ez, ← hv]
          exact DGet.k (k := .inr z) hp3
end
end LP

namespace LP
open PySem PySem.Spec L2

/-! ### pieces, tokens, the walk through tokens: plain -/
inductive Pc where
  | word (w : List Nat) | gap (g : List Nat) | fin | stop (n : Int)
  | grp (r : List Pc) | hng (n : Int) (r : List Pc) | eit (rs : List (List Pc))
inductive Tk where
  | word (w : List Nat) | gap (g : List Nat) | fin | stop (n : Int)
  | opn | hng (n : Int) | eit | cls | bck | dne | or
mutual
def pW : Pc → W
  | .word w => .tup [.str (Str.ofString "word"), .str (sg w)]
  | .gap g => .tup [.str (Str.ofString "gap"), .str (sg g)]
  | .fin => .tup [.str (Str.ofString "end")]
  | .stop n => .tup [.str (Str.ofString "stop"), .int n]
  | .grp r => .tup [.str (Str.ofString "group"), .tup (psW r)]
  | .hng n r => .tup [.str (Str.ofString "hang"), .int n, .tup (psW r)]
  | .eit rs => .tup [.str (Str.ofString "either"), .tup (rsW rs)]
def psW : List Pc → List W
  | [] => []
  | p :: r => pW p :: psW r
def rsW : List (List Pc) → List W
  | [] => []
  | r :: rs => .tup (psW r) :: rsW rs
end
abbrev rW (r : List Pc) : W := .tup (psW r)
def tW : Tk → W
  | .word w => .tup [.str (Str.ofString "word"), .str (sg w)]
  | .gap g => .tup [.str (Str.ofString "gap"), .str (sg g)]
  | .fin => .tup [.str (Str.ofString "end")]
  | .stop n => .tup [.str (Str.ofString "stop"), .int n]
  | .opn => .tup [.str (Str.ofString "open")]
  | .hng n => .tup [.str (Str.ofString "hang"), .int n]
  | .eit => .tup [.str (Str.ofString "either")]
  | .cls => .tup [.str (Str.ofString "close")]
  | .bck => .tup [.str (Str.ofString "back")]
  | .dne => .tup [.str (Str.ofString "done")]
  | .or => .tup [.str (Str.ofString "or")]
theorem psW_append : ∀ (a b : List Pc), psW (a ++ b) = psW a ++ psW b
  | [], _ => rfl
  | p :: a, b => by
    show pW p :: psW (a ++ b) = pW p :: psW a ++ psW b
    rw [psW_append a b]
    rfl
theorem rsW_append : ∀ (a b : List (List Pc)), rsW (a ++ b) = rsW a ++ rsW b
  | [], _ => rfl
  | p :: a, b => by
    show .tup (psW p) :: rsW (a ++ b) = .tup (psW p) :: rsW a ++ rsW b
    rw [rsW_append a b]
    rfl
theorem psW_len : ∀ (a : List Pc), (psW a).length = a.length
  | [] => rfl
  | p :: a => by show (psW a).length + 1 = a.length + 1; rw [psW_len a]
theorem rsW_len : ∀ (a : List (List Pc)), (rsW a).length = a.length
  | [] => rfl
  | p :: a => by show (rsW a).length + 1 = a.length + 1; rw [rsW_len a]
mutual
theorem pW_lf : ∀ p : Pc, lf (pW p) = true
  | .word _ => rfl
  | .gap _ => rfl
  | .fin => rfl
  | .stop _ => rfl
  | .grp r => by
    show (true && (lfs (psW r) && true)) = true
    rw [psW_lf r]; rfl
  | .hng n r => by
    show (true && (true && (lfs (psW r) && true))) = true
    rw [psW_lf r]; rfl
  | .eit rs => by
    show (true && (lfs (rsW rs) && true)) = true
    rw [rsW_lf rs]; rfl
theorem psW_lf : ∀ r : List Pc, lfs (psW r) = true
  | [] => rfl
  | p :: r => by
    show (lf (pW p) && lfs (psW r)) = true
    rw [pW_lf p, psW_lf r]; rfl
theorem rsW_lf : ∀ r : List (List Pc), lfs (rsW r) = true
  | [] => rfl
  | p :: r => by
    show (lfs (psW p) && lfs (rsW r)) = true
    rw [psW_lf p, rsW_lf r]; rfl
end
theorem tW_lf (t : Tk) : lf (tW t) = true := by cases t <;> rfl
abbrev tsW (ts : List Tk) : List W := ts.map tW
theorem tsW_lf : ∀ ts : List Tk, lfs (tsW ts) = true
  | [] => rfl
  | t :: ts => by
    show (lf (tW t) && lfs (tsW ts)) = true
    rw [tW_lf, tsW_lf ts]; rfl

/-- what is open: its head, its full rows, the pieces of the last one -/
structure Fr where
  head : Tk
  full : List (List Pc)
  parts : List Pc
/-- the frames, the innermost first, and the pieces of the row -/
structure St0 where
  fs : List Fr
  base : List Pc
def St0.push (s : St0) (p : Pc) : St0 := match s.fs with
  | [] => ⟨[], s.base ++ [p]⟩
  | f :: fs => ⟨⟨f.head, f.full, f.parts ++ [p]⟩ :: fs, s.base⟩
/-- one token more; nothing is asked of bounds -/
def step (s : St0) : Tk → Option St0
  | .word w => some (s.push (.word w))
  | .gap g => some (s.push (.gap g))
  | .fin => some (s.push .fin)
  | .stop n => some (s.push (.stop n))
  | .opn => some ⟨⟨.opn, [], []⟩ :: s.fs, s.base⟩
  | .hng n => some ⟨⟨.hng n, [], []⟩ :: s.fs, s.base⟩
  | .eit => some ⟨⟨.eit, [], []⟩ :: s.fs, s.base⟩
  | .cls => match s.fs with
    | ⟨.opn, [], ps⟩ :: fs => some ((⟨fs, s.base⟩ : St0).push (.grp ps))
    | _ => none
  | .bck => match s.fs with
    | ⟨.hng n, [], ps⟩ :: fs => some ((⟨fs, s.base⟩ : St0).push (.hng n ps))
    | _ => none
  | .dne => match s.fs with
    | ⟨.eit, r :: rs, ps⟩ :: fs => some ((⟨fs, s.base⟩ : St0).push (.eit ((r :: rs) ++ [ps])))
    | _ => none
  | .or => match s.fs with
    | ⟨.eit, full, ps⟩ :: fs => if full.length < 3 then some ⟨⟨.eit, full ++ [ps], []⟩ :: fs, s.base⟩ else none
    | _ => none
def run (s : St0) : List Tk → Option St0
  | [] => some s
  | t :: ts => (step s t).bind fun s' => run s' ts
theorem run_append : ∀ (a b : List Tk) (s : St0), run s (a ++ b) = (run s a).bind fun s' => run s' b
  | [], b, s => rfl
  | t :: a, b, s => by
    show (step s t).bind (fun s' => run s' (a ++ b)) = ((step s t).bind fun s' => run s' a).bind _
    cases step s t with
    | none => rfl
    | some s' => exact run_append a b s'
theorem run_snoc {a : List Tk} {t : Tk} {s s1 s2 : St0} (h1 : run s a = some s1) (h2 : step s1 t = some s2) : run s (a ++ [t]) = some s2 := by
  rw [run_append, h1]
  show (step s1 t).bind _ = _
  rw [h2]
  rfl

/-! ### tokens, words, depth of rows -/
mutual
def tkP : Pc → List Tk
  | .word w => [.word w]
  | .gap g => [.gap g]
  | .fin => [.fin]
  | .stop n => [.stop n]
  | .grp r => .opn :: tkR r ++ [.cls]
  | .hng n r => .hng n :: tkR r ++ [.bck]
  | .eit rs => .eit :: tkE rs ++ [.dne]
def tkR : List Pc → List Tk
  | [] => []
  | p :: r => tkP p ++ tkR r
/-- rows with `or` between -/
def tkE : List (List Pc) → List Tk
  | [] => []
  | r :: rs => tkR r ++ tkE1 rs
def tkE1 : List (List Pc) → List Tk
  | [] => []
  | r :: rs => .or :: tkR r ++ tkE1 rs
end
theorem tkR_append : ∀ (a b : List Pc), tkR (a ++ b) = tkR a ++ tkR b
  | [], _ => rfl
  | p :: a, b => by
    show tkP p ++ tkR (a ++ b) = tkP p ++ tkR a ++ tkR b
    rw [tkR_append a b, List.append_assoc]
theorem tkR_one (p : Pc) : tkR [p] = tkP p := List.append_nil _
theorem tkE1_append : ∀ (a b : List (List Pc)), tkE1 (a ++ b) = tkE1 a ++ tkE1 b
  | [], _ => rfl
  | r :: a, b => by
    show Tk.or :: tkR r ++ tkE1 (a ++ b) = Tk.or :: tkR r ++ tkE1 a ++ tkE1 b
    rw [tkE1_append a b, List.append_assoc]
/-- the tokens of a frame's full rows and its last one so far -/
def tkF (f : Fr) : List Tk := match f.full with
  | [] => f.head :: tkR f.parts
  | r :: rs => f.head :: tkR r ++ tkE1 rs ++ .or :: tkR f.parts
def tkFs : List Fr → List Tk
  | [] => []
  | f :: fs => tkFs fs ++ tkF f
def tkS (s : St0) : List Tk := tkR s.base ++ tkFs s.fs
theorem tkS_push (s : St0) (p : Pc) : tkS (s.push p) = tkS s ++ tkP p := by
  obtain ⟨fs, base⟩ := s
  cases fs with
  | nil =>
    show tkR (base ++ [p]) ++ [] = tkR base ++ [] ++ tkP p
    rw [List.append_nil, List.append_nil, tkR_append, tkR_one]
  | cons f fs =>
    obtain ⟨hd, full, ps⟩ := f
    show tkR base ++ (tkFs fs ++ tkF ⟨hd, full, ps ++ [p]⟩) = tkR base ++ (tkFs fs ++ tkF ⟨hd, full, ps⟩) ++ tkP p
    have e : tkF ⟨hd, full, ps ++ [p]⟩ = tkF ⟨hd, full, ps⟩ ++ tkP p := by
      cases full with
      | nil =>
        show hd :: tkR (ps ++ [p]) = hd :: tkR ps ++ tkP p
        rw [tkR_append, tkR_one]; rfl
      | cons r rs =>
        show hd :: tkR r ++ tkE1 rs ++ .or :: tkR (ps ++ [p]) = hd :: tkR r ++ tkE1 rs ++ .or :: tkR ps ++ tkP p
        rw [tkR_append, tkR_one]
        simp
    rw [e]
    simp
/-- the state's tokens are those that were walked -/
theorem step_tk {s s' : St0} {t : Tk} (h : step s t = some s') : tkS s' = tkS s ++ [t] := by
  obtain ⟨fs, base⟩ := s
  cases t with
  | word w => cases h; exact tkS_push _ _
  | gap w => cases h; exact tkS_push _ _
  | fin => cases h; exact tkS_push _ _
  | stop n => cases h; exact tkS_push _ _
  | opn => cases h; simp [tkS, tkFs, tkF, tkR]
  | hng n => cases h; simp [tkS, tkFs, tkF, tkR]
  | eit => cases h; simp [tkS, tkFs, tkF, tkR]
  | cls =>
    simp only [step] at h
    split at h
    · injection h with h
      subst h
      rename_i fs' ps e
      rw [tkS_push]
      simp [tkS, tkFs, tkF, tkP]
    · cases h
  | bck =>
    simp only [step] at h
    split at h
    · injection h with h
      subst h
      rename_i fs' n ps e
      rw [tkS_push]
      simp [tkS, tkFs, tkF, tkP]
    · cases h
  | dne =>
    simp only [step] at h
    split at h
    · injection h with h
      subst h
      rename_i fs' r rs ps e
      rw [tkS_push]
      simp [tkS, tkFs, tkF, tkP, tkE, tkE1_append, tkE1]
    · cases h
  | or =>
    simp only [step] at h
    split at h
    · rename_i fs' full ps e
      split at h
      case isFalse => cases h
      injection h with h
      subst h
      cases full with
      | nil => simp [tkS, tkFs, tkF, tkR, tkE1]
      | cons r rs => simp [tkS, tkFs, tkF, tkR, tkE1_append, tkE1]
    · cases h
theorem run_tk : ∀ {ts : List Tk} {s s' : St0}, run s ts = some s' → tkS s' = tkS s ++ ts
  | [], s, s', h => by cases h; simp
  | t :: ts, s, s', h => by
    obtain ⟨s1, h1, h2⟩ := Option.bind_eq_some_iff.mp (show (step s t).bind (fun s' => run s' ts) = some s' from h)
    rw [run_tk h2, step_tk h1]
    simp
def s00 : St0 := ⟨[], []⟩
/-- from the start to the end: the row's tokens are these -/
theorem run_row {ts : List Tk} {row : List Pc} (h : run s00 ts = some ⟨[], row⟩) : tkR row = ts := by
  have := run_tk h
  simpa [tkS, tkFs, s00, tkR] using this

/-! ### words by their letters -/
theorem ofString_inj {a b : String} (h : Str.ofString a = Str.ofString b) : a = b := by
  have h1 : TL.tl (Str.ofString a) = TL.tl (Str.ofString b) := congrArg TL.tl h
  rw [TL.tl_ofString, TL.tl_ofString] at h1
  have h2 : a.toList = b.toList := by
    have inj : ∀ (l m : List Char), l.map Char.toNat = m.map Char.toNat → l = m := by
      intro l
      induction l with
      | nil => intro m h; cases m with
        | nil => rfl
        | cons c m => cases h
      | cons c l ih => intro m h; cases m with
        | nil => cases h
        | cons d m =>
          simp only [List.map_cons, List.cons.injEq] at h
          rw [ih m h.2, Char.ext (UInt32.toNat_inj.mp h.1)]
    exact inj _ _ h1
  exact String.ext h2
@[simp] theorem ofStr_beq (a b : String) : (Str.ofString a == Str.ofString b) = decide (a = b) := by
  by_cases h : a = b
  · subst h; simp
  · rw [decide_eq_false h]
    exact beq_eq_false_iff_ne.mpr fun e => h (ofString_inj e)
def rowsIn : Pc → List (List Pc)
  | .grp r => [r]
  | .hng _ r => [r]
  | .eit rs => rs
  | _ => []
mutual
def depP : Pc → Nat
  | .grp r => 1 + depR r
  | .hng _ r => 1 + depR r
  | .eit rs => depE rs
  | .word _ => 0
  | .gap _ => 0
  | .fin => 0
  | .stop _ => 0
def depR : List Pc → Nat
  | [] => 0
  | p :: r => max (depP p) (depR r)
def depE : List (List Pc) → Nat
  | [] => 0
  | r :: rs => max (1 + depR r) (depE rs)
end
theorem depP_rows (p : Pc) : depP p = depE (rowsIn p) := by
  cases p <;> simp [depP, rowsIn, depE]
mutual
def wdsP : Pc → List (List Nat)
  | .word w => [w]
  | .grp r => wdsR r
  | .hng _ r => wdsR r
  | .eit rs => wdsE rs
  | .gap _ => []
  | .fin => []
  | .stop _ => []
def wdsR : List Pc → List (List Nat)
  | [] => []
  | p :: r => wdsP p ++ wdsR r
def wdsE : List (List Pc) → List (List Nat)
  | [] => []
  | r :: rs => wdsR r ++ wdsE rs
end
/-- the words of tokens -/
def wdsT : List Tk → List (List Nat)
  | [] => []
  | .word w :: ts => w :: wdsT ts
  | _ :: ts => wdsT ts
theorem wdsT_append : ∀ a b : List Tk, wdsT (a ++ b) = wdsT a ++ wdsT b
  | [], _ => rfl
  | t :: a, b => by
    have ih := wdsT_append a b
    cases t <;> simp [wdsT, ih]
mutual
theorem wds_tkP : ∀ p : Pc, wdsT (tkP p) = wdsP p
  | .word w => rfl
  | .gap _ => rfl
  | .fin => rfl
  | .stop _ => rfl
  | .grp r => by simp [tkP, wdsT, wdsT_append, wdsP, wds_tkR r]
  | .hng _ r => by simp [tkP, wdsT, wdsT_append, wdsP, wds_tkR r]
  | .eit rs => by
    cases rs with
    | nil => simp [tkP, tkE, wdsT, wdsP, wdsE]
    | cons r rs => simp [tkP, tkE, wdsT, wdsT_append, wdsP, wdsE, wds_tkR r, wds_tkE1 rs]
theorem wds_tkR : ∀ r : List Pc, wdsT (tkR r) = wdsR r
  | [] => rfl
  | p :: r => by simp [tkR, wdsT_append, wdsR, wds_tkP p, wds_tkR r]
theorem wds_tkE1 : ∀ rs : List (List Pc), wdsT (tkE1 rs) = wdsE rs
  | [] => rfl
  | r :: rs => by simp [tkE1, wdsT, wdsT_append, wdsE, wds_tkR r, wds_tkE1 rs]
end
/-- how many are open behind tokens, and the most of these up to there -/
def opens : Tk → Bool
  | .opn => true
  | .hng _ => true
  | .eit => true
  | _ => false
def shuts : Tk → Bool
  | .cls => true
  | .bck => true
  | .dne => true
  | _ => false
def nowT (now : Int) (t : Tk) : Int := if shuts t = true then (if opens t = true then now + 1 else now) - 1 else if opens t = true then now + 1 else now
def walkT : Int → Int → List Tk → Int × Int
  | now, high, [] => (now, high)
  | now, high, t :: ts => walkT (nowT now t) (max high (nowT now t)) ts
theorem walkT_append : ∀ (a b : List Tk) (now high : Int), walkT now high (a ++ b) = walkT (walkT now high a).1 (walkT now high a).2 b
  | [], _, _, _ => rfl
  | t :: a, b, now, high => walkT_append a b _ _

/-- what stands in a row of the law's -/
def okW (l : List Nat) : Bool := decide (1 ≤ l.length ∧ l.length ≤ 12) && l.all fun c => decide (33 ≤ c ∧ c ≤ 126)
def okG (l : List Nat) : Bool := decide (l = [] ∨ l = [32])
mutual
def okP : Pc → Bool
  | .word w => okW w
  | .gap g => okG g
  | .fin => true
  | .stop n => decide (0 ≤ n ∧ n ≤ 40)
  | .grp r => okR r
  | .hng n r => decide (0 ≤ n ∧ n ≤ 12) && okR r
  | .eit rs => decide (2 ≤ rs.length ∧ rs.length ≤ 4) && okE rs
def okR : List Pc → Bool
  | [] => true
  | p :: r => okP p && okR r
def okE : List (List Pc) → Bool
  | [] => true
  | r :: rs => okR r && okE rs
end
def okT : Tk → Bool
  | .word w => okW w
  | .gap g => okG g
  | .stop n => decide (0 ≤ n ∧ n ≤ 40)
  | .hng n => decide (0 ≤ n ∧ n ≤ 12)
  | _ => true
theorem okR_append : ∀ (a b : List Pc), okR (a ++ b) = (okR a && okR b)
  | [], b => by simp [okR]
  | p :: a, b => by
    show (okP p && okR (a ++ b)) = (okP p && okR a && okR b)
    rw [okR_append a b, Bool.and_assoc]
theorem okE_append : ∀ (a b : List (List Pc)), okE (a ++ b) = (okE a && okE b)
  | [], b => by simp [okE]
  | p :: a, b => by
    show (okR p && okE (a ++ b)) = (okR p && okE a && okE b)
    rw [okE_append a b, Bool.and_assoc]
def okF (f : Fr) : Bool := okT f.head && okE f.full && okR f.parts && decide (f.full.length ≤ 3)
def okS (s : St0) : Bool := s.fs.all okF && okR s.base
theorem okS_push {s : St0} {p : Pc} (h : okS s = true) (hp : okP p = true) : okS (s.push p) = true := by
  obtain ⟨fs, base⟩ := s
  cases fs with
  | nil => simp_all [okS, St0.push, okR_append, okR]
  | cons f fs =>
    obtain ⟨hd, full, ps⟩ := f
    simp_all [okS, St0.push, okR_append, okR, okF]
theorem step_ok {s s' : St0} {t : Tk} (hs : okS s = true) (ht : okT t = true) (h : step s t = some s') : okS s' = true := by
  obtain ⟨fs, base⟩ := s
  cases t with
  | word w => cases h; exact okS_push hs ht
  | gap w => cases h; exact okS_push hs ht
  | fin => cases h; exact okS_push hs rfl
  | stop n => cases h; exact okS_push hs ht
  | opn => cases h; simpa [okS, okF, okR, okE, okT] using hs
  | hng n => cases h; simp_all [okS, okF, okR, okE, okT]
  | eit => cases h; simpa [okS, okF, okR, okE, okT] using hs
  | cls =>
    simp only [step] at h
    split at h
    · injection h with h
      subst h
      simp only [okS, List.all_cons, okF, Bool.and_eq_true] at hs
      exact okS_push (by simp only [okS, Bool.and_eq_true]; exact ⟨hs.1.2, hs.2⟩) hs.1.1.1.2
    · cases h
  | bck =>
    simp only [step] at h
    split at h
    · injection h with h
      subst h
      simp only [okS, List.all_cons, okF, Bool.and_eq_true] at hs
      exact okS_push (by simp only [okS, Bool.and_eq_true]; exact ⟨hs.1.2, hs.2⟩) (by simp only [okP, Bool.and_eq_true]; exact ⟨hs.1.1.1.1.1, hs.1.1.1.2⟩)
    · cases h
  | dne =>
    simp only [step] at h
    split at h
    · injection h with h
      subst h
      simp only [okS, List.all_cons, okF, Bool.and_eq_true, decide_eq_true_eq] at hs
      have hl := hs.1.1.2
      refine okS_push (by simp only [okS, Bool.and_eq_true]; exact ⟨hs.1.2, hs.2⟩) ?_
      simp only [okP, Bool.and_eq_true, decide_eq_true_eq, okE_append, okE, Bool.and_true, List.length_append, List.length_cons, List.length_nil] at hl ⊢
      have he := hs.1.1.1.1.2
      simp only [okE, Bool.and_eq_true] at he
      exact ⟨⟨by omega, by omega⟩, he, hs.1.1.1.2⟩
    · cases h
  | or =>
    simp only [step] at h
    split at h
    · split at h
      case isFalse => cases h
      rename_i hlt
      injection h with h
      subst h
      simp only [okS, List.all_cons, okF, Bool.and_eq_true, decide_eq_true_eq] at hs ⊢
      simp only [okE_append, okE, okR, Bool.and_true, List.length_append, List.length_cons, List.length_nil, Bool.and_eq_true]
      exact ⟨⟨⟨⟨⟨hs.1.1.1.1.1, hs.1.1.1.1.2, hs.1.1.1.2⟩, trivial⟩, by omega⟩, hs.1.2⟩, hs.2⟩
    · cases h
theorem run_ok : ∀ {ts : List Tk} {s s' : St0}, okS s = true → ts.all okT = true → run s ts = some s' → okS s' = true
  | [], s, s', hs, _, h => by cases h; exact hs
  | t :: ts, s, s', hs, ht, h => by
    obtain ⟨s1, h1, h2⟩ := Option.bind_eq_some_iff.mp (show (step s t).bind (fun s' => run s' ts) = some s' from h)
    rw [List.all_cons, Bool.and_eq_true] at ht
    exact run_ok (step_ok hs ht.1 h1) ht.2 h2
mutual
theorem walk_tkP : ∀ (p : Pc) (now high : Int), now ≤ high → okP p = true → walkT now high (tkP p) = (now, max high (now + depP p))
  | .word w, now, high, h, _ => by simp [tkP, walkT, nowT, opens, shuts, depP]
  | .gap _, now, high, h, _ => by simp [tkP, walkT, nowT, opens, shuts, depP]
  | .fin, now, high, h, _ => by simp [tkP, walkT, nowT, opens, shuts, depP]
  | .stop _, now, high, h, _ => by simp [tkP, walkT, nowT, opens, shuts, depP]
  | .grp r, now, high, h, ok => by
    have e : walkT now high (tkP (.grp r)) = walkT (now + 1) (max high (now + 1)) (tkR r ++ [.cls]) := rfl
    rw [e, walkT_append, walk_tkR r _ _ (by omega) ok]
    simp [walkT, nowT, opens, shuts, depP]
    omega
  | .hng n r, now, high, h, ok => by
    have e : walkT now high (tkP (.hng n r)) = walkT (now + 1) (max high (now + 1)) (tkR r ++ [.bck]) := rfl
    simp only [okP, Bool.and_eq_true] at ok
    rw [e, walkT_append, walk_tkR r _ _ (by omega) ok.2]
    simp [walkT, nowT, opens, shuts, depP]
    omega
  | .eit [], now, high, h, ok => by simp [okP] at ok
  | .eit (r :: rs), now, high, h, ok => by
    have e : walkT now high (tkP (.eit (r :: rs))) = walkT (now + 1) (max high (now + 1)) (tkR r ++ tkE1 rs ++ [.dne]) := rfl
    simp only [okP, okE, Bool.and_eq_true] at ok
    rw [e, walkT_append, walkT_append, walk_tkR r _ _ (by omega) ok.2.1, walk_tkE1 rs now _ (by simp; omega) ok.2.2]
    simp [walkT, nowT, opens, shuts, depP, depE]
    omega
theorem walk_tkR : ∀ (r : List Pc) (now high : Int), now ≤ high → okR r = true → walkT now high (tkR r) = (now, max high (now + depR r))
  | [], now, high, h, _ => by simp [tkR, walkT, depR]; omega
  | p :: r, now, high, h, ok => by
    simp only [okR, Bool.and_eq_true] at ok
    show walkT now high (tkP p ++ tkR r) = _
    rw [walkT_append, walk_tkP p _ _ h ok.1, walk_tkR r _ _ (by simp; omega) ok.2]
    simp [depR]
    omega
theorem walk_tkE1 : ∀ (rs : List (List Pc)) (now high : Int), now + 1 ≤ high → okE rs = true → walkT (now + 1) high (tkE1 rs) = (now + 1, max high (now + depE rs))
  | [], now, high, h, _ => by simp [tkE1, walkT, depE]; omega
  | r :: rs, now, high, h, ok => by
    simp only [okE, Bool.and_eq_true] at ok
    have e : walkT (now + 1) high (tkE1 (r :: rs)) = walkT (now + 1) (max high (now + 1)) (tkR r ++ tkE1 rs) := rfl
    rw [e, walkT_append, walk_tkR r _ _ (by omega) ok.1, walk_tkE1 rs now _ (by simp; omega) ok.2]
    simp [depE]
    omega
end
/-! ### cells at any place -/
theorem ix_cell {n : Nat} {i : Int} {ws : List W} {v : W} {M : Mem} (h : M[n]? = some (.lst ws)) (h2 : atI ws i = some v) : vIx (.loc n) (.int i) M = .ok v M := by
  show (match cellL M[n]? with | some ws => (match atI ws i with | some w => Res.ok w M | none => .bad) | none => .bad) = _
  rw [h]
  show (match atI ws i with | some w => Res.ok w M | none => .bad) = _
  rw [h2]
theorem len_cell {n : Nat} {ws : List W} {M : Mem} (h : M[n]? = some (.lst ws)) : fLen [.loc n] M = .ok (.int ws.length) M := by
  show (match cellL M[n]? with | some ws => Res.ok (W.int ws.length) M | none => .bad) = _
  rw [h]
  rfl
theorem append_cell {n : Nat} {ws : List W} {y : W} {M : Mem} {r : Mem → Res (List W)} (h : M[n]? = some (.lst ws)) (hr : ∃ M', r M = .ok [y] M' ∧ M'[n]? = some (.lst ws) ∧ ws.length < 16777216) : ∃ M', r M = .ok [y] M' ∧ mlk fAppend r (.loc n) M = .ok .non (M'.set n (.lst (ws ++ [y]))) := by
  obtain ⟨M', h1, h2, h3⟩ := hr
  exact ⟨M', h1, by rw [mlk_at h, h1, bind_ok', mlk2_at h2, append_ok h3]⟩
/-! ### leaves -/
def isLeaf : Tk → Bool
  | .word _ => true
  | .gap _ => true
  | .fin => true
  | .stop _ => true
  | _ => false
def leafP : Tk → Pc
  | .word w => .word w
  | .gap g => .gap g
  | .stop n => .stop n
  | _ => .fin
theorem step_leaf {t : Tk} (h : isLeaf t = true) (s : St0) : step s t = some (s.push (leafP t)) := by
  cases t <;> first | rfl | cases h
theorem leafP_W {t : Tk} (h : isLeaf t = true) : pW (leafP t) = tW t := by
  cases t <;> first | rfl | cases h
def kindS : Tk → Str
  | .opn => Str.ofString "open"
  | .hng _ => Str.ofString "hang"
  | _ => Str.ofString "either"
def isOpen : Tk → Bool
  | .opn => true
  | .hng _ => true
  | .eit => true
  | _ => false
def pick2 (ks : List Str) (ws : List W) (x : W) (M2 : Mem) : Res W := match asZ x with
  | some z => (match pickK ks ws z with
    | some w => .ok w M2
    | none => .bad)
  | none => .bad
def pick1 (ks : List Str) (r : Mem → Res W) (ws : List W) (M1 : Mem) : Res W := if ws.length = ks.length then (r M1).bind (pick2 ks ws) else .bad
@[simp] theorem dPick_eq {ks : List Str} {da : DAn} {e : DEn} {ρ : Rho} {M : Mem} : dPick ks da e ρ M = (da ρ M).bind (pick1 ks (e ρ)) := rfl
theorem pick1_ok {ks : List Str} {ws : List W} {M : Mem} {r : Mem → Res W} (h : ws.length = ks.length) : pick1 ks r ws M = (r M).bind (pick2 ks ws) := if_pos h
theorem pick2_ok {ks : List Str} {ws : List W} {M : Mem} {z : Str} {w : W} (h : pickK ks ws z = some w) : pick2 ks ws (.str z) M = .ok w M := by
  show (match pickK ks ws z with | some w => Res.ok w M | none => .bad) = _
  rw [h]
@[simp] theorem ofStr_eq (a b : String) : (Str.ofString a = Str.ofString b) = (a = b) := propext ⟨ofString_inj, fun h => by rw [h]⟩
/-! ### tokens that leave nothing open -/
def pushes (s : St0) : List Pc → St0
  | [] => s
  | p :: r => pushes (s.push p) r
def Closed (ts : List Tk) (row : List Pc) : Prop := ∀ s, run s ts = some (pushes s row)
def lift (F : Fr) (fs : List Fr) (base : List Pc) (s : St0) : St0 := ⟨s.fs ++ ⟨F.head, F.full, F.parts ++ s.base⟩ :: fs, base⟩
theorem lift_push (F : Fr) (fs : List Fr) (base : List Pc) (s : St0) (p : Pc) : lift F fs base (s.push p) = (lift F fs base s).push p := by
  obtain ⟨gs, b⟩ := s
  cases gs with
  | nil => simp [lift, St0.push]
  | cons g gs => simp [lift, St0.push]
theorem step_lift {F : Fr} {fs : List Fr} {base : List Pc} {s s' : St0} {t : Tk} (h : step s t = some s') : step (lift F fs base s) t = some (lift F fs base s') := by
  obtain ⟨gs, b⟩ := s
  cases t with
  | word w => cases h; rw [lift_push]; rfl
  | gap w => cases h; rw [lift_push]; rfl
  | fin => cases h; rw [lift_push]; rfl
  | stop n => cases h; rw [lift_push]; rfl
  | opn => cases h; rfl
  | hng n => cases h; rfl
  | eit => cases h; rfl
  | cls =>
    simp only [step] at h
    split at h
    · injection h with h
      subst h
      rw [lift_push]; rfl
    · cases h
  | bck =>
    simp only [step] at h
    split at h
    · injection h with h
      subst h
      rw [lift_push]; rfl
    · cases h
  | dne =>
    simp only [step] at h
    split at h
    · injection h with h
      subst h
      rw [lift_push]; rfl
    · cases h
  | or =>
    simp only [step] at h
    split at h
    · split at h
      case isFalse => cases h
      rename_i hlt
      injection h with h
      subst h
      exact if_pos hlt
    · cases h
theorem run_lift {F : Fr} {fs : List Fr} {base : List Pc} : ∀ {ts : List Tk} {s s' : St0}, run s ts = some s' → run (lift F fs base s) ts = some (lift F fs base s')
  | [], s, s', h => by cases h; rfl
  | t :: ts, s, s', h => by
    obtain ⟨s1, h1, h2⟩ := Option.bind_eq_some_iff.mp (show (step s t).bind (fun s' => run s' ts) = some s' from h)
    show (step (lift F fs base s) t).bind _ = _
    rw [step_lift h1]
    exact run_lift h2
theorem pushes_top (F : Fr) (fs : List Fr) (base : List Pc) : ∀ row : List Pc, pushes ⟨F :: fs, base⟩ row = ⟨⟨F.head, F.full, F.parts ++ row⟩ :: fs, base⟩
  | [] => by simp [pushes]
  | p :: r => by
    show pushes ⟨⟨F.head, F.full, F.parts ++ [p]⟩ :: fs, base⟩ r = _
    rw [pushes_top]
    simp
theorem pushes_base : ∀ (row base : List Pc), pushes ⟨[], base⟩ row = ⟨[], base ++ row⟩
  | [], base => by simp [pushes]
  | p :: r, base => by
    show pushes ⟨[], base ++ [p]⟩ r = _
    rw [pushes_base r]
    simp
/-- all that stands on top of the pieces of the row -/
def under (base : List Pc) (s : St0) : St0 := ⟨s.fs, base ++ s.base⟩
theorem step_under {base : List Pc} {s s' : St0} {t : Tk} (h : step s t = some s') : step (under base s) t = some (under base s') := by
  obtain ⟨gs, b⟩ := s
  have up : ∀ (gs : List Fr) (b : List Pc) (p : Pc), under base ((⟨gs, b⟩ : St0).push p) = (under base ⟨gs, b⟩).push p := fun gs b p => by
    cases gs <;> simp [under, St0.push]
  cases t with
  | word w => cases h; rw [up]; rfl
  | gap w => cases h; rw [up]; rfl
  | fin => cases h; rw [up]; rfl
  | stop n => cases h; rw [up]; rfl
  | opn => cases h; rfl
  | hng n => cases h; rfl
  | eit => cases h; rfl
  | cls =>
    simp only [step] at h
    split at h
    · injection h with h
      subst h
      rw [up]; rfl
    · cases h
  | bck =>
    simp only [step] at h
    split at h
    · injection h with h
      subst h
      rw [up]; rfl
    · cases h
  | dne =>
    simp only [step] at h
    split at h
    · injection h with h
      subst h
      rw [up]; rfl
    · cases h
  | or =>
    simp only [step] at h
    split at h
    · split at h
      case isFalse => cases h
      rename_i hlt
      injection h with h
      subst h
      exact if_pos hlt
    · cases h
theorem run_under {base : List Pc} : ∀ {ts : List Tk} {s s' : St0}, run s ts = some s' → run (under base s) ts = some (under base s')
  | [], s, s', h => by cases h; rfl
  | t :: ts, s, s', h => by
    obtain ⟨s1, h1, h2⟩ := Option.bind_eq_some_iff.mp (show (step s t).bind (fun s' => run s' ts) = some s' from h)
    show (step (under base s) t).bind _ = _
    rw [step_under h1]
    exact run_under h2
theorem closed_of {ts : List Tk} {row : List Pc} (h : run s00 ts = some ⟨[], row⟩) : Closed ts row := by
  intro s
  obtain ⟨fs, base⟩ := s
  cases fs with
  | nil =>
    have := run_under (base := base) h
    rw [pushes_base]
    simpa [under, s00] using this
  | cons F fs =>
    have := run_lift (F := F) (fs := fs) (base := base) h
    rw [pushes_top]
    simpa [lift, s00] using this
theorem Closed.run {ts : List Tk} {row : List Pc} (h : Closed ts row) : LP.run s00 ts = some ⟨[], row⟩ := by
  have := h s00
  rw [s00, pushes_base] at this
  simpa [s00] using this
theorem closed_nil : Closed [] [] := fun s => rfl
theorem pushes_append : ∀ (a b : List Pc) (s : St0), pushes s (a ++ b) = pushes (pushes s a) b
  | [], _, _ => rfl
  | p :: a, b, s => pushes_append a b _
theorem Closed.append {a b : List Tk} {r q : List Pc} (h1 : Closed a r) (h2 : Closed b q) : Closed (a ++ b) (r ++ q) := fun s => by
  rw [run_append, h1 s]
  show LP.run (pushes s r) b = _
  rw [h2, pushes_append]
theorem closed_leaf {t : Tk} (h : isLeaf t = true) : Closed [t] [leafP t] := fun s => by
  show (step s t).bind _ = _
  rw [step_leaf h]
  rfl
theorem closed_leaves : ∀ {ts : List Tk}, ts.all isLeaf = true → Closed ts (ts.map leafP)
  | [], _ => closed_nil
  | t :: ts, h => by
    rw [List.all_cons, Bool.and_eq_true] at h
    exact (closed_leaf h.1).append (closed_leaves h.2)
theorem closed_grp {ts : List Tk} {r : List Pc} (h : Closed ts r) : Closed (.opn :: ts ++ [.cls]) [.grp r] := fun s => by
  show LP.run ⟨⟨.opn, [], []⟩ :: s.fs, s.base⟩ (ts ++ [.cls]) = _
  rw [run_append, h, pushes_top]
  rfl
theorem closed_hng {n : Int} {ts : List Tk} {r : List Pc} (h : Closed ts r) : Closed (.hng n :: ts ++ [.bck]) [.hng n r] := fun s => by
  show LP.run ⟨⟨.hng n, [], []⟩ :: s.fs, s.base⟩ (ts ++ [.bck]) = _
  rw [run_append, h, pushes_top]
  rfl
theorem closed_eit {ts : List Tk} {r : List Pc} (h : Closed ts r) : Closed (.eit :: ts ++ [.or, .fin, .dne]) [.eit [r, [.fin]]] := fun s => by
  show LP.run ⟨⟨.eit, [], []⟩ :: s.fs, s.base⟩ (ts ++ [.or, .fin, .dne]) = _
  rw [run_append, h, pushes_top]
  rfl
/-- so many round a row -/
theorem closed_wrap {hd : Tk} {sh : List Tk} {wr : List Pc → Pc} (hw : ∀ ts r, Closed ts r → Closed (hd :: ts ++ sh) [wr r]) : ∀ (d : Nat) {ts : List Tk} {r : List Pc}, Closed ts r → ∃ r', Closed (List.replicate d hd ++ ts ++ (List.replicate d sh).flatten) r'
  | 0, ts, r, h => ⟨r, by simpa using h⟩
  | d + 1, ts, r, h => by
    obtain ⟨r', q⟩ := closed_wrap hw d (hw ts r h)
    refine ⟨r', ?_⟩
    have e : List.replicate (d + 1) hd ++ ts ++ (List.replicate (d + 1) sh).flatten = List.replicate d hd ++ (hd :: ts ++ sh) ++ (List.replicate d sh).flatten := by
      have e1 : List.replicate (d + 1) hd = List.replicate d hd ++ [hd] := List.replicate_succ'
      have e2 : (List.replicate (d + 1) sh).flatten = sh ++ (List.replicate d sh).flatten := by rw [List.replicate_succ, List.flatten_cons]
      rw [e1, e2]
      simp
    rw [e]
    exact q
/-! ### how deep tokens go -/
theorem push_len (s : St0) (p : Pc) : (s.push p).fs.length = s.fs.length := by
  obtain ⟨fs, base⟩ := s
  cases fs <;> rfl
theorem step_now {s s' : St0} {t : Tk} (h : step s t = some s') : nowT (s.fs.length : Int) t = (s'.fs.length : Int) := by
  obtain ⟨gs, b⟩ := s
  cases t with
  | word w => cases h; rw [push_len]; rfl
  | gap w => cases h; rw [push_len]; rfl
  | fin => cases h; rw [push_len]; rfl
  | stop n => cases h; rw [push_len]; rfl
  | opn => cases h; rfl
  | hng n => cases h; rfl
  | eit => cases h; rfl
  | cls =>
    simp only [step] at h
    split at h
    · injection h with h
      subst h
      rw [push_len]; simp [nowT, shuts, opens]
    · cases h
  | bck =>
    simp only [step] at h
    split at h
    · injection h with h
      subst h
      rw [push_len]; simp [nowT, shuts, opens]
    · cases h
  | dne =>
    simp only [step] at h
    split at h
    · injection h with h
      subst h
      rw [push_len]; simp [nowT, shuts, opens]
    · cases h
  | or =>
    simp only [step] at h
    split at h
    · split at h
      case isFalse => cases h
      injection h with h
      subst h
      rfl
    · cases h
theorem run_walk : ∀ {ts : List Tk} {s s' : St0} (high : Int), run s ts = some s' → (s.fs.length : Int) ≤ high → (walkT s.fs.length high ts).1 = (s'.fs.length : Int) ∧ (s'.fs.length : Int) ≤ (walkT s.fs.length high ts).2
  | [], s, s', high, h, hh => by cases h; exact ⟨rfl, hh⟩
  | t :: ts, s, s', high, h, hh => by
    obtain ⟨s1, h1, h2⟩ := Option.bind_eq_some_iff.mp (show (step s t).bind (fun s' => run s' ts) = some s' from h)
    show (walkT (nowT s.fs.length t) (max high (nowT s.fs.length t)) ts).1 = _ ∧ _ ≤ (walkT (nowT s.fs.length t) (max high (nowT s.fs.length t)) ts).2
    rw [step_now h1]
    exact run_walk _ h2 (by omega)
def hiT (ts : List Tk) : Int := (walkT 0 0 ts).2
theorem hi_ge {ts : List Tk} {st : St0} (h : run s00 ts = some st) : (st.fs.length : Int) ≤ hiT ts := (run_walk (s := s00) 0 h (by simp [s00])).2
theorem hi_snoc {ts : List Tk} {st st' : St0} {t : Tk} (h : run s00 ts = some st) (h2 : step st t = some st') : hiT (ts ++ [t]) = max (hiT ts) (st'.fs.length : Int) := by
  have q := (run_walk (s := s00) 0 h (by simp [s00])).1
  have q : (walkT 0 0 ts).1 = (st.fs.length : Int) := q
  unfold hiT
  rw [walkT_append, q]
  show max _ (nowT st.fs.length t) = _
  rw [step_now h2]
theorem hi_row {ts : List Tk} {row : List Pc} (h : run s00 ts = some ⟨[], row⟩) (hok : okR row = true) : hiT ts = depR row := by
  unfold hiT
  rw [← run_row h, walk_tkR row 0 0 (by omega) hok]
  show max (0 : Int) (0 + depR row) = _
  omega
end LP

/-! LPEnum: enumerate(tuple) -/
namespace PySem
open Sem (wp)
open AutoSeq1 (wpAny_loadPart')
theorem meets_enumerate_newT (l : Addr) (items : Array Value) (n : Nat) (dct : Option Addr) (sl : Array (Option Value)) :
    Meets (Builtin.«enumerate.__new__» ⟨[.type "enumerate", .ref l], []⟩) (fun _ R s => s.heap.get? l = some { cls := .type "tuple", dict := dct, data := .seq items n, slots := sl } ∧
      R (.ok (.ret (.ref (s.heap.push { cls := .type "tuple_iterator", data := .fields #[.ref l, .int 0 0] }).objs.size)))
        { s with heap := (s.heap.push { cls := .type "tuple_iterator", data := .fields #[.ref l, .int 0 0] }).push { cls := .type "enumerate", data := .fields #[.none, .bool false, .ref s.heap.objs.size, rawInt 0, .none, .none] } }) :=
  .of_wp fun prog w A R s h => by
    obtain ⟨hp, g, d, tk, os⟩ := s; obtain ⟨hl, h⟩ := h
    have hsub := sub_enumerate
    have hL : Heap.IsTuple (Shared.heap ⟨hp, g, d, tk, os⟩) l items := ⟨_, hl, rfl, n, rfl⟩
    wp_walk using wpAny_loadPart' hl
    refine wpAny_stack_any fun st => wpAny_pure ?_
    split
    · rename_i c _ _ _ _ _
      cases (c == Value.type "enumerate")
      · wp_walk using wpAny_loadPart' hl, wpAny_pyIter_tuple hL
        exact ⟨_, rfl, h⟩
      · wp_walk using wpAny_loadPart' hl, wpAny_pyIter_tuple hL
        exact ⟨_, rfl, h⟩
    · wp_walk using wpAny_loadPart' hl, wpAny_pyIter_tuple hL
      exact ⟨_, rfl, h⟩
section
variable {prog : Program} {w : World} {A : Around} {E : Value → Shared → Prop} {s : Shared}
theorem call_enumerate_tuple {l : Addr} {items : Array Value} {Q : Value → Shared → Prop} (hL : s.heap.IsTuple l items)
    (h : ∀ h', IsEnum h' (s.heap.objs.size + 1) s.heap.objs.size 0 .none → h'.IsTupleIter s.heap.objs.size l 0 → h'.objs.size = s.heap.objs.size + 2 →
      (∀ b o, s.heap.get? b = some o → h'.get? b = some o) → Q (.ref (s.heap.objs.size + 1)) { s with heap := h' }) :
    wpAny (model prog w) A (call (.type "enumerate") [.ref l]) Q E s := by
  obtain ⟨⟨c, dct, dt, sl⟩, hl, hc, n, hd⟩ := hL
  replace hc : c = .type "tuple" := hc
  replace hd : dt = .seq items n := hd
  subst hc hd
  refine callType_new F.called_enumerate (by decide) (F.typeCall_enumerate_1 _) (F.newCall_enumerate_1 _) (fun obj => F.args_object_init_2 obj _) F.entry_enumerate_new
    (meets_enumerate_newT l items n dct sl) ⟨hl, ?_⟩
  have hz : (s.heap.push { cls := .type "tuple_iterator", data := .fields #[.ref l, .int 0 0] }).objs.size = s.heap.objs.size + 1 := Heap.size_push ..
  show _ ∧ _
  rw [hz]
  have he : IsEnum ((s.heap.push { cls := .type "tuple_iterator", data := .fields #[.ref l, .int 0 0] }).push
      { cls := .type "enumerate", data := .fields #[.none, .bool false, .ref s.heap.objs.size, rawInt 0, .none, .none] }) (s.heap.objs.size + 1) s.heap.objs.size 0 .none := by
    have := Heap.get?_push_size (s.heap.push { cls := .type "tuple_iterator", data := .fields #[.ref l, .int 0 0] })
      (o := { cls := .type "enumerate", data := .fields #[.none, .bool false, .ref s.heap.objs.size, rawInt 0, .none, .none] }) rfl
    rw [hz] at this; exact this
  refine ⟨⟨_, he, rfl⟩, h _ he ⟨_, Heap.get?_push_of_some _ (Heap.get?_push_size _ rfl), rfl, rfl⟩ (by rw [Heap.size_push, hz]) fun b o x => Heap.get?_push_of_some _ (Heap.get?_push_of_some _ x)⟩
end
end PySem
namespace LP
open PyProof.Rows
open PySem PySem.Spec L2
/-- the tuple at a, each item in a new pair -/
def IteT (K : PySem.W.Frag) (a : Addr) : It :=
  ⟨fun i H => ∃ (xs : List V) (x : V), SqT K H a xs ∧ xs[i]? = some x, fun i H v H' => ∃ T x, v = .ref T ∧ H T = none ∧ H' = upd H T (.tup [.int (i : Nat), x]) ∧ ∀ xs, SqT K H a xs → xs[i]? = some x, fun i H => ∃ xs : List V, SqT K H a xs ∧ xs.length ≤ i⟩
theorem isTupleIter_at {h h' : Heap} {a t : Addr} {i : Nat} (x : h.IsTupleIter a t i) (k : ∀ o, h.get? a = some o → h'.get? a = some o) : h'.IsTupleIter a t i :=
  let ⟨o, ho, r⟩ := x; ⟨o, k o ho, r⟩
theorem turn_enumT {P : Program} {w : World} {K : PySem.W.Frag} {elts : List Expr} {kk : Nat} {tpos : Pos} (a e it : Addr) :
    Turn P w K (.Tuple elts kk tpos) (IteT K a) [e, it] e (fun i h => (∃ old, IsEnum h e it ((i : Nat) : Int) old) ∧ h.IsTupleIter it a i ∧ e ≠ it ∧ a ≠ it ∧ e ≠ a) where
  mem := by simp
  obj := fun i h st b hb => by
    obtain ⟨⟨old, he⟩, ⟨o, ho, hc, hd⟩, _⟩ := st
    have e' : b = e ∨ b = it := by simpa using hb
    rcases e' with z | z
    · rw [z]; exact ⟨_, he, fun v q => nomatch q⟩
    · rw [z]; exact ⟨o, ho, fun v q => by rw [hd] at q; cases q⟩
  keep := fun i h h' st k => let ⟨⟨old, he⟩, hi, hne⟩ := st; ⟨⟨old, k e (by simp) _ he⟩, isTupleIter_at hi fun o q => k it (by simp) o q, hne⟩
  item := by
    intro X hP hw hK hc i pins s σ H E I hf st hg
    subst hP hw hK
    obtain ⟨⟨old, he⟩, hit, hne, hai, hea⟩ := st
    obtain ⟨xs, x, hq, hx⟩ := hg
    obtain ⟨its, rv, p, hz⟩ := I.tuple hq
    obtain ⟨u, hu, ru⟩ := rv.get hx
    have hel : e < s.heap.objs.size := Heap.lt_size he
    have hil : it < s.heap.objs.size := by obtain ⟨_, q, _⟩ := hit; exact Heap.lt_size q
    have ht : s.heap.IsTuple a its.toArray := p
    have D := Draws.tuple (prog := X.prog) (w := X.w) (A := X.A.in1) (I.ok.hd hc) it a hai its.toArray
    have hlt : i < its.toArray.size := by
      have := (List.getElem?_eq_some_iff.mp hu).1
      simpa using this
    refine wpAny_pyNext_enum_itemD D he ⟨hit, ht⟩ hlt hne (by simp [hne, hea]) fun u' h' tk hP ho hst' hT hsz hk => ?_
    have eu : u' = u := by
      have q : its.toArray[i]? = some u' := hP
      have q2 : its.toArray[i]? = some u := by simpa using hu
      rw [q2] at q
      exact (Option.some.inj q).symm
    subst eu
    obtain ⟨hit', _⟩ := hst'
    refine ⟨_, rfl, wpAny_letOwnedTupleGo_enum (s := { s with heap := h', toks := tk + 1 }) ho fun h'' he' sb => ?_⟩
    have hT2 : h''.get? s.heap.objs.size = some { cls := .type "tuple", data := .seq #[.int i tk, u'] } := (sb.2 _ (Nat.ne_of_gt hel)).trans hT
    have new : ObjOk X.prog X.w (upd H s.heap.objs.size (.tup [.int (i : Nat), x])) h'' s.heap.objs.size (.tup [.int (i : Nat), x]) :=
      ⟨by show 2 ≤ sizeLine; decide, [.int i tk, u'], .cons ⟨_, rfl⟩ (.cons ru .nil), ⟨_, hT2, rfl, _, rfl⟩⟩
    have I1 : Inv X pins σ (upd H s.heap.objs.size (.tup [.int (i : Nat), x])) { s with heap := h'', toks := tk + 1 } :=
      I.turnedNew (ch := [e, it]) (fun b ob hb q => (sb.2 b (fun z => hb (by simp [z]))).trans (hk b ob (fun z => hb (by simp [z])) (fun z => hb (by simp [z])) q)) hf (Nat.le_refl _) new
    refine ⟨.ref s.heap.objs.size, _, I1, rfl, ⟨_, x, rfl, I.hok.fresh (Nat.le_refl _), rfl, fun ys hy => by rw [I.tuple_inj hy hq]; exact hx⟩, ⟨⟨u', ?_⟩, isTupleIter_at hit' fun o q => (sb.2 it (Ne.symm hne)).trans q, hne, hai, hea⟩, fun b hb => ?_⟩
    · have e1 : ((i + 1 : Nat) : Int) = (i : Int) + 1 := by omega
      rw [e1]; exact he'
    · have hb' : b < s.heap.objs.size := by
        have e' : b = e ∨ b = it := by simpa using hb
        rcases e' with z | z
        · rw [z]; exact hel
        · rw [z]; exact hil
      rw [upd_ne (Nat.ne_of_lt hb')]
      exact (hf b hb).1
  done := by
    intro X hP hw hK hc i pins s σ H E I hf st hg
    subst hP hw hK
    obtain ⟨⟨old, he⟩, hit, hne, hai, hea⟩ := st
    obtain ⟨xs, hq, hx⟩ := hg
    obtain ⟨its, rv, p, hz⟩ := I.tuple hq
    obtain ⟨f0, f1, f2, f3, f4, f5⟩ := hf it (by simp)
    have hl := rv.length
    have ht : s.heap.IsTuple a its.toArray := p
    have hun : its.toArray[i]? = none := by simp; omega
    have hT : s.TypeIs (.ref e) "enumerate" := ⟨_, he, rfl⟩
    unfold pyNext
    refine wpAny_bind (wpAny_attempt (wpAny_callSpecial?_slot (name := Str.ofString "__next__") hT F.slot_enumerate_next
      (wpAny_call_entry F.slot_enumerate_next hT F.entry_enumerate_next ?_ (F.args_enumerate_next_1 _))))
    show wpAny _ _ (field (.ref e) 2 >>= _) _ _ _
    refine wpAny_bind (wpAny_field he rfl (x := .ref it) rfl ?_)
    refine wpAny_bind (wpAny_nextOf_tuple_end (I.ok.hd hc) hit ht hun fun h' x he' hx' => ?_)
    obtain ⟨o, ho, hc'⟩ := hx'
    refine wpAny_bind (wpAny_isInstance (T := "StopIteration") (b := true) ⟨o, ho, hc'⟩ isSubtype_stop ?_)
    exact wpAny_pure ⟨rfl, I.turned (t' := s.toks) (fun b o hb q => he' b o hb q) f0 f1 f3 f4 f5⟩
  self := fun A i s Q E st h => let ⟨⟨_, he⟩, _⟩ := st; wpAny_pyIter_enum he h
def iEnumT (K : PySem.W.Frag) (ta : TA) : TI := fun σ H R => ta σ H fun vs H1 => ∃ a xs, vs = [.ref a] ∧ SqT K H1 a xs ∧ R (IteT K a) H1
theorem pi_enumT {X : Cx} {e : Expr} {ta : TA} {p pos tpos : Pos} {elts : List Expr} {kk : Nat} (hg : Gl X "enumerate") (hm : X.mg "enumerate" = none) (ha : PA X [e] ta) (hs : starEach [e] X.env = [(false, eval e X.env)] := by rfl) :
    PI X (.Tuple elts kk tpos) (.Call (.Name "enumerate" p) [e] [] pos) (iEnumT X.K ta) := by
  refine ⟨fun pins s σ H R I h => ?_⟩
  refine PyProof.Rows.Call_ (ld_blt I hg hm boot_enumerate (PyProof.Rows.callWith_type1 (thn (ha.run pos pins s σ H _ I h) fun us s1 ⟨vs, H1, I1, r1, q1⟩ => ?_) hs rfl))
  obtain ⟨a, xs, ex, hq, q⟩ := q1
  subst ex
  cases r1 with
  | cons r rr =>
    cases rr
    cases r
    obtain ⟨its, rv, p', hz⟩ := I1.tuple hq
    have hal : a < s1.heap.objs.size := by
      obtain ⟨o, ho, _⟩ := (show s1.heap.IsTuple a its.toArray from p')
      exact Heap.lt_size ho
    refine call_enumerate_tuple (show s1.heap.IsTuple a its.toArray from p') fun h' he hit hsz hk => wpAny_pyIter_enum he ?_
    have I2 : Inv X pins σ H1 { s1 with heap := h' } := I1.kept (t' := s1.toks) hk
    refine ⟨s1.heap.objs.size + 1, [s1.heap.objs.size + 1, s1.heap.objs.size], _, _, H1, rfl, I2, turn_enumT a (s1.heap.objs.size + 1) s1.heap.objs.size, ⟨⟨.none, he⟩, hit, Nat.succ_ne_self _, Nat.ne_of_lt hal, Nat.ne_of_gt (Nat.lt_succ_of_lt hal)⟩, fun b hb => ?_, q⟩
    have e' : b = s1.heap.objs.size + 1 ∨ b = s1.heap.objs.size := by simpa using hb
    have hle : s1.heap.objs.size ≤ b := by
      rcases e' with z | z
      · rw [z]; exact Nat.le_add_right _ _
      · rw [z]; exact Nat.le_refl _
    exact I1.fpOk hle (I1.hok.fresh hle)
/-- the items with their places -/
def enumW (k : Nat) : List W → List W
  | [] => []
  | w :: ws => .tup [.int (k : Int), w] :: enumW (k + 1) ws
theorem enumW_get : ∀ (ws : List W) (k i : Nat), (enumW k ws)[i]? = (ws[i]?).map fun w => .tup [.int ((k + i : Nat) : Int), w]
  | [], _, _ => by simp [enumW]
  | w :: ws, k, 0 => by simp [enumW]
  | w :: ws, k, i + 1 => by
    have := enumW_get ws (k + 1) i
    simp only [enumW, List.getElem?_cons_succ]
    rw [this, show k + 1 + i = k + (i + 1) by omega]
theorem enumW_len : ∀ (ws : List W) (k : Nat), (enumW k ws).length = ws.length
  | [], _ => rfl
  | w :: ws, k => by simp [enumW, enumW_len ws]
def dEnumT (d : DAn) : DAn := fun ρ M => (d ρ M).bind fun ws M1 => match ws with
  | [.tup us] => .ok (enumW 0 us) M1
  | _ => .bad
theorem di_enumT {X : Cx} {ct : CT} {Wx : WX} {a : Expr} {p pos tpos : Pos} {elts : List Expr} {kk : Nat} {da : DAn} (hg : Gl X "enumerate") (hm : X.mg "enumerate" = none) (ha : DA X ct Wx [a] da) (hs : starEach [a] X.env = [(false, eval a X.env)] := by rfl) :
    DI X ct Wx (.Tuple elts kk tpos) (.Call (.Name "enumerate" p) [a] [] pos) (dEnumT da) := by
  refine ⟨PI.imp (pi_enumT hg hm ha.pa hs) fun σ H R ⟨S, φ, ρ, M, sr, q⟩ => ⟨S, φ, ρ, M, sr, PostG.bind q fun φ1 H1 M1 ws vs l1 sr1 r1 q1 => ?_⟩⟩
  split at q1
  · rename_i us
    obtain ⟨v, r, e1, h1, h2⟩ := r1
    cases h2
    obtain ⟨a, vs, ev, hk, rs⟩ := h1
    subst ev
    have hk : (Rd H1 a (.tup vs) ∧ a ∉ φ1) ∨ KT X.K a vs := hk.imp (fun z => ⟨z.1, z.2.2⟩) _root_.id
    refine ⟨a, vs, e1, (Le.refl _ _).seqT hk, q1 φ1 H1 _ (Le.refl _ _) sr1 fun i S2 φ2 H2 M2 l2 k2 rm => ?_⟩
    have hs := l2.seqT hk
    refine ⟨fun w hw => ?_, fun hi => ⟨vs, hs, by rw [hi, enumW_len, RVs.length rs]; exact Nat.le_refl _⟩⟩
    rw [enumW_get] at hw
    obtain ⟨w', hw', ew⟩ := Option.map_eq_some_iff.mp hw
    obtain ⟨u, hu, ru⟩ := RVs.get rs hw'
    refine ⟨⟨vs, u, hs, hu⟩, fun x H3 y => ?_⟩
    obtain ⟨T, x', e3, hT, e4, y⟩ := y
    have := y vs hs
    rw [hu] at this
    cases this
    subst e4 ew e3
    refine ⟨.inr ⟨T, _, hT, rfl⟩, ?_⟩
    obtain ⟨f1, f2⟩ := rm.fresh hT
    have ru2 : RV X.K ct S2 φ2 H2 w' u := RV.mono l2 _ _ (RV.ownL (fun a ha h => ⟨fun z => h.1 (k2 a ha z), h.2⟩) _ _ ru)
    exact ⟨T, _, rfl, .inl ⟨.inl upd_same, f2, f1⟩, RVs.cons (by rw [Nat.zero_add]; rfl) (RVs.cons (RV.mono (Le.upd hT f1) _ _ ru2) RVs.nil)⟩
  · exact q1.elim
end LP

/-! LPCls: own classes: attributes, methods, making -/
namespace LP
open PySem PySem.Spec L2

/-! ### attributes as two lists -/
def lkp : List Str → List W → Str → Option W
  | k :: ks, v :: vs, f => if f = k then some v else lkp ks vs f
  | _, _, _ => none
def putK : List Str → Str → List Str
  | [], f => [f]
  | k :: r, f => if k = f then k :: r else k :: putK r f
def putVs : List Str → List W → Str → W → List W
  | [], _, _, w => [w]
  | k :: ks, v :: vs, f, w => if k = f then w :: vs else v :: putVs ks vs f w
  | _ :: _, [], _, _ => []
/-- class, attributes -/
def clsOf (M : Mem) : W → Option (Str × List Str × List W)
  | .obj c ks vs => some (c, ks, vs)
  | .loc n => match M[n]? with
    | some (.ins c ks vs) => some (c, ks, vs)
    | _ => none
  | _ => none
section
variable {K : PySem.W.Frag} {ct : CT} {S : Addr → Prop} {φ : List Addr} {H : Hp} {M : Mem}
theorem clsOf_ok (m : RM K ct S φ H M) {w : W} {v : V} {c : Str} {ks : List Str} {ws : List W} (h : RV K ct S φ H w v) (e : clsOf M w = some (c, ks, ws)) :
    ∃ a C dx fs, v = .ref a ∧ H a = some (.ins C dx fs) ∧ ct c = some C ∧ fs.map (·.1) = ks ∧ RVs K ct S φ H ws (fs.map (·.2)) := by
  cases w with
  | obj c' ks' vs' =>
    cases e
    obtain ⟨a, C, dx, fs, e1, ⟨h1, h2, h3, h4⟩, r⟩ := h
    exact ⟨a, C, dx, fs, e1, h1, h3, h4, r⟩
  | loc n =>
    have e : (match M[n]? with | some (.ins c ks vs) => some (c, ks, vs) | _ => none) = some (c, ks, ws) := e
    split at e
    · rename_i c' ks' vs' em
      cases e
      obtain ⟨a, e1, h1⟩ := h
      obtain ⟨C, dx, fs, h2, h3, h4, r⟩ := m.cell n _ a em h1
      exact ⟨a, C, dx, fs, e1, h2, h3, h4, r⟩
    · cases e
  | non => cases e
  | bl _ => cases e
  | int _ => cases e
  | str _ => cases e
  | tup _ => cases e
  | lst _ => cases e
  | fro _ => cases e
theorem lkp_ok : ∀ {fs : List (Str × V)} {ws : List W} {f : Str} {w : W}, RVs K ct S φ H ws (fs.map (·.2)) → lkp (fs.map (·.1)) ws f = some w → ∃ v, fs.lookup f = some v ∧ RV K ct S φ H w v
  | [], _, _, _, _, e => by
    simp [lkp] at e
  | (k, v) :: fs, [], _, _, _, e => by
    simp [lkp] at e
  | (k, v) :: fs, u :: ws, f, w, ⟨v', r, e1, h1, h2⟩, e => by
    simp only [List.map_cons] at e1
    cases e1
    simp only [List.map_cons, lkp] at e
    by_cases hk : f = k
    · rw [if_pos hk] at e
      cases e
      exact ⟨v, by simp [List.lookup, hk], h1⟩
    · rw [if_neg hk] at e
      obtain ⟨v', q1, q2⟩ := lkp_ok h2 e
      refine ⟨v', ?_, q2⟩
      have : (f == k) = false := beq_eq_false_iff_ne.mpr hk
      simp [List.lookup, this, q1]
theorem putF_fst (f : Str) (v : V) : ∀ fs : List (Str × V), (putF f v fs).map (·.1) = putK (fs.map (·.1)) f
  | [] => rfl
  | (k, x) :: r => by
    show (if k = f then (k, v) :: r else (k, x) :: putF f v r).map (·.1) = if k = f then k :: r.map (·.1) else k :: putK (r.map (·.1)) f
    by_cases h : k = f
    · rw [if_pos h, if_pos h]; rfl
    · rw [if_neg h, if_neg h, List.map_cons, putF_fst f v r]
theorem putF_snd {f : Str} {w : W} {v : V} (hw : RV K ct S φ H w v) : ∀ {fs : List (Str × V)} {ws : List W}, RVs K ct S φ H ws (fs.map (·.2)) → RVs K ct S φ H (putVs (fs.map (·.1)) ws f w) ((putF f v fs).map (·.2))
  | [], _, _ => RVs.one hw
  | (k, x) :: r, [], h => by
    have h : (x :: r.map (·.2)) = [] := h
    cases h
  | (k, x) :: r, u :: ws, ⟨v', r', e1, h1, h2⟩ => by
    simp only [List.map_cons] at e1
    cases e1
    show RVs K ct S φ H (if k = f then w :: ws else u :: putVs (r.map (·.1)) ws f w) ((if k = f then (k, v) :: r else (k, x) :: putF f v r).map (·.2))
    by_cases hk : k = f
    · rw [if_pos hk, if_pos hk]
      exact RVs.cons hw h2
    · rw [if_neg hk, if_neg hk]
      exact RVs.cons h1 (putF_snd hw h2)
theorem lookup_none {f : Str} : ∀ {fs : List (Str × V)}, f ∉ fs.map (·.1) → fs.lookup f = none
  | [], _ => rfl
  | (k, v) :: fs, h => by
    simp only [List.map_cons, List.mem_cons, not_or] at h
    have : (f == k) = false := beq_eq_false_iff_ne.mpr h.1
    simp [List.lookup, this, lookup_none h.2]
end
/-- the class named c has no attribute f of its own -/
def CA (K : PySem.W.Frag) (ct : CT) (c f : Str) : Prop := ∃ C, ct c = some C ∧ Cls K C ∧ NoAttr K C f
abbrev CAs (K : PySem.W.Frag) (ct : CT) (cs : List Str) (f : Str) : Prop := ∀ c ∈ cs, CA K ct c f
theorem CAs.nil {K : PySem.W.Frag} {ct : CT} {f : Str} : CAs K ct [] f := fun _ h => nomatch h
theorem CAs.cons {K : PySem.W.Frag} {ct : CT} {f c : Str} {cs : List Str} (h : CA K ct c f) (t : CAs K ct cs f) : CAs K ct (c :: cs) f := fun x hx => by
  rcases List.mem_cons.mp hx with e | e
  · rw [e]; exact h
  · exact t x e

/-! ### e.f -/
def getF (cs : List Str) (f : Str) (w : W) (M : Mem) : Res W := match clsOf M w with
  | some (c, ks, vs) => if c ∈ cs then (match lkp ks vs f with
    | some u => .ok u M
    | none => .bad) else .bad
  | none => .bad
def dFld (cs : List Str) (f : Str) (d : DEn) : DEn := fun ρ M => (d ρ M).bind (getF cs f)
section
variable {X : Cx} {ct : CT} {Wx : WX} {pos pos' tpos : Pos} {e o value : Expr} {d dv dob : DEn} {f : Str} {cs : List Str}
theorem de_fld (hc : CAs X.K ct cs f) (he : DE X ct Wx e d) (hb : attributeBase e f X.env (eval e X.env) = eval e X.env := by rfl) : DE X ct Wx (.Attribute e f pos) (dFld cs f d) := by
  refine ⟨PE.imp (pe_fld he.pe hb) fun σ H Q ⟨S, φ, ρ, M, sr, q⟩ => ⟨S, φ, ρ, M, sr, PostG.bind q fun φ1 H1 M1 w v l1 sr1 r1 q1 => ?_⟩⟩
  unfold getF at q1
  split at q1
  · rename_i c ks vs ec
    split at q1
    · rename_i hm
      split at q1
      · rename_i u eu
        obtain ⟨a, C, dx, fs, e1, h1, h2, h3, r⟩ := clsOf_ok sr1.mem r1 ec
        obtain ⟨C', g1, g2, g3⟩ := hc c hm
        rw [h2] at g1
        cases g1
        subst h3
        obtain ⟨v', q2, q3⟩ := lkp_ok r eu
        exact ⟨a, C, dx, fs, v', e1, h1, g2, g3, q2, PostG.ok (Wx := Wx) (Rel := RelW X.K ct) sr1 q3 q1⟩
      · exact q1.elim
    · exact q1.elim
  · exact q1.elim

/-! ### o.f = e, o.f += e -/
/-- the store: o must be a cell -/
def putAt (cs : List Str) (f : Str) (o w : W) (ρ : Rho) (M : Mem) : SRes := match o with
  | .loc n => (match M[n]? with
    | some (.ins c ks vs) => if c ∈ cs ∧ ks.length < 1000 then .nx ρ (M.set n (.ins c (putK ks f) (putVs ks vs f w))) else .bad
    | _ => .bad)
  | _ => .bad
def sFld (cs : List Str) (f : Str) (dob dv : DEn) : DSn := fun ρ M => (dv ρ M).to ρ fun w M1 => (dob ρ M1).to ρ fun o M2 => putAt cs f o w ρ M2
theorem putAt_ok {S : Addr → Prop} {φ : List Addr} {H : Hp} {ρ : Rho} {M : Mem} {σ : L2.St} {D : Ends} {ow w : W} {ov v : V} (hc : CAs X.K ct cs f) (sr : SR X.K ct S φ H ρ M σ) (ro : RV X.K ct S φ H ow ov) (rw1 : RV X.K ct S φ H w v) (q : PostS X.K ct Wx S φ H (putAt cs f ow w ρ M) D) :
    ∃ a C dx fs, ov = .ref a ∧ H a = some (.ins C dx fs) ∧ Cls X.K C ∧ NoAttr X.K C f ∧ fs.length < 1000 ∧ D.nx σ (upd H a (.ins C dx (putF f v fs))) ∧ ∃ c ∈ cs, ct c = some C := by
  unfold putAt at q
  split at q
  · rename_i n
    split at q
    · rename_i c ks vs em
      split at q
      · rename_i hm
        obtain ⟨a, e1, h1⟩ := ro
        obtain ⟨C, dx, fs, h2, h3, h4, r⟩ := sr.mem.cell n _ a em h1
        obtain ⟨C', g1, g2, g3⟩ := hc c hm.1
        rw [h3] at g1
        cases g1
        subst h4
        refine ⟨a, C, dx, fs, e1, h2, g2, g3, by have := hm.2; rw [List.length_map] at this; exact this, ?_, c, hm.1, h3⟩
        have l : Le φ H φ (upd H a (.ins C dx (putF f v fs))) := Le.write (List.mem_of_getElem? h1)
        have rs := RVs.mono l _ _ (putF_snd (f := f) rw1 r)
        have sr4 := sr.write (c := .ins c (putK (fs.map (·.1)) f) (putVs (fs.map (·.1)) vs f w)) h1 ⟨C, dx, putF f v fs, upd_same, h3, putF_fst f v fs, rs⟩
        exact PostS.nx_ok sr4 (PostS.le l q)
      · exact q.elim
    · exact q.elim
  · exact q.elim
theorem ds_fld (hc : CAs X.K ct cs f) (ho : DE X ct Wx o dob) (he : DE X ct Wx value dv) (hs : swapsWith value (some (.Attribute o f pos')) pos.line X.env = pure false := by rfl) : DS X ct Wx (.Assign [.Attribute o f pos'] value pos) (sFld cs f dob dv) :=
  ⟨PS.imp (ps_fld ho.pe he.pe hs) fun D σ H ⟨S, φ, ρ, M, sr, q⟩ => ⟨S, φ, ρ, M, sr, PostS.to q fun φ1 H1 M1 w v l1 sr1 r1 q1 => ⟨S, φ1, ρ, M1, sr1, PostS.to q1 fun φ2 H2 M2 wo vo l2 sr2 r2 q2 => by
    obtain ⟨a, C, dx, fs, k1, k2, k3, k4, k5, k6, _⟩ := putAt_ok hc sr2 r2 (RV.mono l2 _ _ r1) q2
    exact ⟨a, C, dx, fs, k1, k2, k3, k4, k5, k6⟩⟩⟩⟩
/-- what o.f is, and the class -/
def getC (cs : List Str) (f : Str) (w : W) (M : Mem) : Option (Str × W) := match clsOf M w with
  | some (c, ks, vs) => if c ∈ cs then (match lkp ks vs f with
    | some u => some (c, u)
    | none => none) else none
  | none => none
def sFldA (cs : List Str) (f : Str) (op : W → W → Mem → Res W) (dob dv : DEn) : DSn := fun ρ M => (dob ρ M).to ρ fun o M1 => match getC cs f o M1 with
  | some (c, u) => (dv ρ M1).to ρ fun w M2 => (op u w M2).to ρ fun z M3 => putAt [c] f o z ρ M3
  | none => .bad
theorem ds_fldA {op : Operator} {r : R2} {g : W → W → Mem → Res W} (hop : OpR X (inplaceOp op) r) (hv : ValR X.K ct Wx r g) (hc : CAs X.K ct cs f) (ho : DE X ct Wx o dob) (he : DE X ct Wx value dv) : DS X ct Wx (.AugAssign (.Attribute o f tpos) op value pos) (sFldA cs f g dob dv) := by
  refine ⟨PS.imp (ps_fldaug (rd := fun x y H Q => r x y H Q) ho.pe he.pe (fun pins s σ H x y u v Q I rx ry h => hop pins s σ H x y u v Q I rx ry h)) fun D σ H ⟨S, φ, ρ, M, sr, q⟩ => ⟨S, φ, ρ, M, sr, PostS.to q fun φ1 H1 M1 wo vo l1 sr1 r1 q1 => ?_⟩⟩
  split at q1
  · rename_i c u ecu
    unfold getC at ecu
    split at ecu
    · rename_i c' ks vs ec
      split at ecu
      · rename_i hm
        split at ecu
        · rename_i u' eu
          cases ecu
          obtain ⟨a, C, dx, fs, e1, h1, h2, h3, r0⟩ := clsOf_ok sr1.mem r1 ec
          obtain ⟨C', g1, g2, g3⟩ := hc c hm
          rw [h2] at g1
          cases g1
          subst h3
          obtain ⟨v', q2, q3⟩ := lkp_ok r0 eu
          refine ⟨a, C, dx, fs, v', e1, h1, g2, g3, q2, S, φ1, ρ, M1, sr1, PostS.to q1 fun φ2 H2 M2 w v l2 sr2 r2 q4 => ?_⟩
          refine hv S φ2 H2 ρ M2 σ u v' w v _ sr2 (RV.mono l2 _ _ q3) r2 (PostS.to q4 fun φ3 H3 M3 z y l3 sr3 r3 q5 => ?_)
          obtain ⟨a', C', dx', fs', e1', h1', k1, k2, k3, k4, c2, hc2, ec2⟩ := putAt_ok (cs := [c]) (fun x hx => by rw [List.mem_singleton.mp hx]; exact ⟨C, h2, g2, g3⟩) sr3 (RV.mono (l2.trans l3) _ _ r1) r3 q5
          rw [e1] at e1'
          cases e1'
          rw [List.mem_singleton.mp hc2, h2] at ec2
          cases ec2
          exact ⟨dx', fs', h1', k3, k4⟩
        · cases ecu
      · cases ecu
    · cases ecu
  · exact q1.elim
theorem ds_fldAdd (hc : CAs X.K ct cs f) (ho : DE X ct Wx o dob) (he : DE X ct Wx value dv) : DS X ct Wx (.AugAssign (.Attribute o f tpos) .Add value pos) (sFldA cs f vIAdd dob dv) := ds_fldA iop_add2 valIAdd hc ho he
end

/-! ### methods -/
section
variable {X : Cx} {k : Nat} {f C : Addr} {fd : FuncData} {ps : List Str} {sp : Sp} {E : L2.St → XK} {x m : Str} {p pos apos p1 : Pos} {e o : Expr} {es : List Expr} {ta : TE} {t : TA}
def tMethS (C : Addr) (m : Str) (sp : Sp) (E : L2.St → XK) (ta : TE) (t : TA) : TE := fun σ H Q => ta σ H fun x H1 => ∃ a dx fs, x = .ref a ∧ H1 a = some (.ins C dx fs) ∧ fs.lookup m = none ∧ t σ H1 fun vs H2 => sp (x :: vs) H2 Q (E σ)
theorem run_fnS1 {pins : List (Addr × Obj)} {σ : L2.St} {H : Hp} {s : Shared} {Q : VK} {us : List Value} {vs : List V} (F : FnOk X.prog X.w X.K X.mg X.base (L2.CX X.prog X.w) k f fd ps sp) (hr : Room k X.A) (hb : Binds X.K fd ps []) (hx : ∀ σ, PassesAt (L2.CX X.prog X.w) X σ (E σ))
    (I : Inv X pins σ H s) (r : Vals vs us) (h : sp vs H Q (E σ)) : wpAny (model X.prog X.w) X.A (call (.ref f) us) (EP X pins σ Q) X.xe s :=
  run_fnSD (dvs := []) (ds := []) F hr hb .nil (hx σ) I r (by rw [List.append_nil]; exact h)
theorem pe_methS1 {pl : Sem Bool} (he : PE X o ta) (c : Cls X.K C) (hm : Meth X.K C m f) (F : FnOk X.prog X.w X.K X.mg X.base (L2.CX X.prog X.w) k f fd ps sp) (hr : Room k X.A) (hb : Binds X.K fd ps []) (hx : ∀ σ, PassesAt (L2.CX X.prog X.w) X σ (E σ)) (ha : PA X (e :: es) t)
    (hst : starEach (e :: es) X.env = (false, eval e X.env) :: starEach es X.env := by rfl) (hpl : (backTo pos (starEach es X.env)).any (·.1) = false := by rfl)
    (ht : eval (.Call (.Attribute o m apos) (e :: es) [] pos) X.env = (do
      let ov ← eval o X.env
      standAt apos.atName
      let (f, first) ← holding [ov] (getMethod ov m pl)
      callWith pos f first (backTo pos (starEach (e :: es) X.env)) (backToKw pos (keywordEach [] X.env))) := by rfl) :
    PE X (.Call (.Attribute o m apos) (e :: es) [] pos) (tMethS C m sp E ta t) := by
  refine ⟨fun pins s σ H Q I h => ?_⟩
  refine PySem.W.methodCall_KW (pl := pl) (thn (he.run pins s σ H _ I h) fun u s1 ⟨x, H1, I1, rx, a, dx, fs, ex, ea, l, q⟩ => ?_) ht
  subst ex
  obtain rfl : u = Value.ref a := rx
  refine getmeth_ok I1 ea c hm l ?_
  refine PySem.W.callWith_K (first := [.ref a]) (h₀ := X.base) I.ok.mod.kin hm.kp (thn (ha.run pos pins s1 σ H1 _ I1 q) fun us s2 ⟨vs, H2, I2, r, q2⟩ => ⟨I2.kIn, ?_⟩) hst hpl
  exact run_fnS1 (us := .ref a :: us) (vs := .ref a :: vs) F hr hb hx I2 (.cons rfl r) q2
theorem pe_meth0S1 {pl : Sem Bool} (he : PE X o ta) (c : Cls X.K C) (hm : Meth X.K C m f) (F : FnOk X.prog X.w X.K X.mg X.base (L2.CX X.prog X.w) k f fd ps sp) (hr : Room k X.A) (hb : Binds X.K fd ps []) (hx : ∀ σ, PassesAt (L2.CX X.prog X.w) X σ (E σ))
    (ht : eval (.Call (.Attribute o m apos) [] [] pos) X.env = (do
      let ov ← eval o X.env
      standAt apos.atName
      let (f, first) ← holding [ov] (getMethod ov m pl)
      callWith pos f first (backTo pos (starEach [] X.env)) (backToKw pos (keywordEach [] X.env))) := by rfl) :
    PE X (.Call (.Attribute o m apos) [] [] pos) (tMethS C m sp E ta tNil) := by
  refine ⟨fun pins s σ H Q I h => ?_⟩
  refine PySem.W.methodCall_KW (pl := pl) (thn (he.run pins s σ H _ I h) fun u s1 ⟨x, H1, I1, rx, a, dx, fs, ex, ea, l, q⟩ => ?_) ht
  subst ex
  obtain rfl : u = Value.ref a := rx
  refine getmeth_ok I1 ea c hm l ?_
  exact PySem.W.callWith_K0 (first := [.ref a]) I1.kIn hm.kp (run_fnS1 (us := [.ref a]) (vs := [.ref a]) F hr hb hx I1 (.cons rfl .nil) q)
/-- what a class must have that its plain def is read off it -/
structure Off (K : PySem.W.Frag) (C : Addr) (m : Str) (f : Addr) : Prop where
  ga : PySem.W.specialIn K (.ref C) "__getattribute__" = some (some (.builtin "type.__getattribute__"))
  rd : PySem.W.readsIn K C (.type "type") = true
  fd : PySem.W.findCls K (.ref C) (.type "type") m = some (.val (.ref f))
  kp : PySem.W.keepIn K (.ref f) = true
def tOff (sp : Sp) (E : L2.St → XK) (t : TA) : TE := fun σ H Q => t σ H fun vs H1 => sp vs H1 Q (E σ)
/-- C.m(e, ..) -/
theorem pe_off {pl : Sem Bool} (hg : Gl X x) (hm : X.mg x = some (.ref C)) (O : Off X.K C m f) (F : FnOk X.prog X.w X.K X.mg X.base (L2.CX X.prog X.w) k f fd ps sp) (hr : Room k X.A) (hb : Binds X.K fd ps []) (hx : ∀ σ, PassesAt (L2.CX X.prog X.w) X σ (E σ)) (ha : PA X (e :: es) t)
    (hdb : (x == ("__debug__" : Str)) = false := by decide)
    (hst : starEach (e :: es) X.env = (false, eval e X.env) :: starEach es X.env := by rfl) (hpl : (backTo pos (starEach es X.env)).any (·.1) = false := by rfl)
    (ht : eval (.Call (.Attribute (.Name x p1) m apos) (e :: es) [] pos) X.env = (do
      let ov ← eval (.Name x p1) X.env
      standAt apos.atName
      let (f, first) ← holding [ov] (getMethod ov m pl)
      callWith pos f first (backTo pos (starEach (e :: es) X.env)) (backToKw pos (keywordEach [] X.env))) := by rfl) :
    PE X (.Call (.Attribute (.Name x p1) m apos) (e :: es) [] pos) (tOff sp E t) := by
  refine ⟨fun pins s σ H Q I h => ?_⟩
  refine PySem.W.methodCall_KW (pl := pl) (ld_glob I hg hm ?_ hdb) ht
  refine PySem.W.method_cls I.kIn O.ga (PySem.W.cls_value I.kIn O.rd O.fd rfl ?_)
  refine PySem.W.callWith_K (first := []) (h₀ := X.base) I.ok.mod.kin O.kp (thn (ha.run pos pins _ σ H _ (I.tok _) h) fun us s2 ⟨vs, H2, I2, r, q2⟩ => ⟨I2.kIn, ?_⟩) hst hpl
  exact run_fnS1 F hr hb hx I2 r q2
/-- C(..) -/
def tMakeS (C : Addr) (sp : Sp) (E : L2.St → XK) (t : TA) : TE := fun σ H Q => t σ H fun vs H1 => ∀ x dx, H1 x = none → H1 dx = none → dx ≠ x →
  sp (.ref x :: vs) (upd (upd H1 dx (.own x)) x (.ins C dx [])) (fun v H2 => v = .non ∧ Q (.ref x) H2) (E σ)
theorem run_makeS {pins : List (Addr × Obj)} {σ : L2.St} {H : Hp} {s : Shared} {Q : VK} {us : List Value} {vs : List V} (M : Mk X.K C f) (F : FnOk X.prog X.w X.K X.mg X.base (L2.CX X.prog X.w) k f fd ps sp) (hr : Room (k + 1) X.A) (hb : Binds X.K fd ps [])
    (hx : ∀ σ, PassesAt (L2.CX X.prog X.w) X σ (E σ)) (I : Inv X pins σ H s) (r : Vals vs us)
    (h : ∀ x dx, H x = none → H dx = none → dx ≠ x → sp (.ref x :: vs) (upd (upd H dx (.own x)) x (.ins C dx [])) (fun v H2 => v = .non ∧ Q (.ref x) H2) (E σ)) :
    wpAny (model X.prog X.w) X.A (call (.ref C) us) (EP X pins σ Q) X.xe s := by
  have hq := h (s.heap.objs.size + 1) s.heap.objs.size (I.hok.fresh (Nat.le_succ _)) (I.hok.fresh (Nat.le_refl _)) (Nat.ne_of_lt (Nat.lt_succ_self _))
  have I2 := Inv.made (C := C) I
  have r2 : Vals (V.ref (s.heap.objs.size + 1) :: vs) (Value.ref (s.heap.objs.size + 1) :: us) := .cons rfl r
  have hl : ((Value.ref (s.heap.objs.size + 1) :: us) ++ []).length = ps.length := by
    have e := r2.length
    rw [F.len _ _ _ _ hq] at e
    rw [List.append_nil]
    exact e.symm
  have hbb := hb _ (Value.ref (s.heap.objs.size + 1) :: us) I2.kIn hl
  rw [List.append_nil] at hbb
  refine wpAny_call (make_map (f := f) I.kIn M.makes M.init (beq_iff_eq.mp M.fn) (codeAny_mono (F.run _ X.stack _ _ ⟨Value.ref (s.heap.objs.size + 1) :: us, []⟩ (Value.ref (s.heap.objs.size + 1) :: us) _ _ (E σ) (hr.make C us [])
    (I2.env0.make C us []) hbb r2 hq) fun r s' hq' => ?_))
  cases r with
  | error e => exact hx σ pins _ _ e s' I2 hq'
  | ok fl =>
    cases fl with
    | ret u =>
      obtain ⟨v, H', I3, rv, ev, q3⟩ := I2.after hq'
      subst ev
      exact ⟨rv, ⟨V.ref (s.heap.objs.size + 1), H', I3, rfl, q3⟩⟩
    | next => exact False.elim hq'
    | brk => exact False.elim hq'
    | cont => exact False.elim hq'
theorem pe_makeS (M : Mk X.K C f) (F : FnOk X.prog X.w X.K X.mg X.base (L2.CX X.prog X.w) k f fd ps sp) (hr : Room (k + 1) X.A) (hg : Gl X x) (hm : X.mg x = some (.ref C)) (hb : Binds X.K fd ps []) (hx : ∀ σ, PassesAt (L2.CX X.prog X.w) X σ (E σ))
    (ha : PA X (e :: es) t) (hdb : (x == ("__debug__" : Str)) = false := by decide) (he : starEach (e :: es) X.env = (false, eval e X.env) :: starEach es X.env := by rfl) (hpl : (backTo pos (starEach es X.env)).any (·.1) = false := by rfl) :
    PE X (.Call (.Name x p) (e :: es) [] pos) (tMakeS C sp E t) := by
  refine ⟨fun pins s σ H Q I h => ?_⟩
  refine wpAny_Call_Name_kw (ld_glob I hg hm ?_ hdb)
  refine PySem.W.callWith_K (h₀ := X.base) I.ok.mod.kin M.kp (thn (ha.run pos pins s σ H _ I h) fun us s1 ⟨vs, H1, I1, r, q⟩ => ⟨I1.kIn, ?_⟩) he hpl
  exact run_makeS M F hr hb hx I1 r q
theorem pe_make0S (M : Mk X.K C f) (F : FnOk X.prog X.w X.K X.mg X.base (L2.CX X.prog X.w) k f fd ps sp) (hr : Room (k + 1) X.A) (hg : Gl X x) (hm : X.mg x = some (.ref C)) (hb : Binds X.K fd ps []) (hx : ∀ σ, PassesAt (L2.CX X.prog X.w) X σ (E σ))
    (hdb : (x == ("__debug__" : Str)) = false := by decide) : PE X (.Call (.Name x p) [] [] pos) (tMakeS C sp E tNil) := by
  refine ⟨fun pins s σ H Q I h => ?_⟩
  refine wpAny_Call_Name_kw (ld_glob I hg hm ?_ hdb)
  exact PySem.W.callWith_K0 I.kIn M.kp (run_makeS (us := []) M F hr hb hx I .nil h)
end

/-! ### by values -/
/-- ways to call: from values to values, the callee's promise -/
def CallMode (md : Nat → FnD → FnD) : Prop := ∀ {K : PySem.W.Frag} {ct : CT} {Wx : WX} {S : Addr → Prop} {φ : List Addr} {H : Hp} {ρ : Rho} {M : Mem} {σ : L2.St} {ws : List W} {vs : List V} {Q : VK} {n : Nat} {F : FnD}, SR K ct S φ H ρ M σ → RVs K ct S φ H ws vs →
    PostG K ct Wx (RelW K ct) S φ H ρ σ (md n F ws M) Q → spD K ct n F vs H Q (WE Wx σ)
def callS (n : Nat) (F : FnD) (ws : List W) (M : Mem) : Res W := if ws.length = n then F ws M else .bad
theorem mode_P : CallMode callP := fun sr r q => spD_pure sr r q
theorem mode_F : CallMode callF := fun sr r q => spD_fresh sr r q
theorem mode_S : CallMode callS := by
  intro K ct Wx S φ H ρ M σ ws vs Q n F sr r q
  unfold callS at q
  split at q
  · rename_i hw
    refine ⟨by rw [← RVs.length r]; exact hw, S, φ, M, ws, r, sr.mem, ?_⟩
    cases e' : F ws M with
    | ok w M' =>
      rw [e'] at q
      exact fun φ' H' v l rm rv => q φ' H' v l ⟨sr.len, fun i w h => let ⟨v, h1, h2⟩ := sr.slot i w h; ⟨v, h1, RV.mono l _ _ h2⟩, rm⟩ rv
    | exc c i M' =>
      rw [e'] at q
      exact fun φ' H' cls d l rm x => q φ' H' cls d l ⟨sr.len, fun i w h => let ⟨v, h1, h2⟩ := sr.slot i w h; ⟨v, h1, RV.mono l _ _ h2⟩, rm⟩ x
    | bad =>
      rw [e'] at q
      exact q
  · exact q.elim
/-- the class named c has the method m, that does F -/
def MO (X : Cx) (ct : CT) (k n : Nat) (m c : Str) (F : FnD) : Prop := ∃ C f fd ps, ct c = some C ∧ Cls X.K C ∧ Meth X.K C m f ∧ FnOk X.prog X.w X.K X.mg X.base (L2.CX X.prog X.w) k f fd ps (spD X.K ct n F) ∧ Binds X.K fd ps []
abbrev MOs (X : Cx) (ct : CT) (k n : Nat) (m : Str) (tab : List (Str × FnD)) : Prop := ∀ p ∈ tab, MO X ct k n m p.1 p.2
theorem MOs.nil {X : Cx} {ct : CT} {k n : Nat} {m : Str} : MOs X ct k n m [] := fun _ h => nomatch h
theorem MOs.cons {X : Cx} {ct : CT} {k n : Nat} {m c : Str} {F : FnD} {tab : List (Str × FnD)} (h : MO X ct k n m c F) (t : MOs X ct k n m tab) : MOs X ct k n m ((c, F) :: tab) := fun x hx => by
  rcases List.mem_cons.mp hx with e | e
  · rw [e]; exact h
  · exact t x e
def findM : List (Str × FnD) → Str → Option FnD
  | [], _ => none
  | (c, F) :: r, x => if c = x then some F else findM r x
theorem findM_mem : ∀ {tab : List (Str × FnD)} {c : Str} {F : FnD}, findM tab c = some F → (c, F) ∈ tab
  | [], _, _, h => nomatch h
  | (c', F') :: r, c, F, h => by
    unfold findM at h
    split at h
    · rename_i e
      cases h
      rw [e]
      exact List.mem_cons_self ..
    · exact List.mem_cons_of_mem _ (findM_mem h)
def dMeth (md : Nat → FnD → FnD) (n : Nat) (m : Str) (tab : List (Str × FnD)) (dob : DEn) (da : DAn) : DEn := fun ρ M => (dob ρ M).bind fun o M1 => match clsOf M1 o with
  | some (c, ks, _) => (match findM tab c with
    | some F => if m ∈ ks then .bad else (da ρ M1).bind fun ws M2 => md n F (o :: ws) M2
    | none => .bad)
  | none => .bad
section
variable {X : Cx} {ct : CT} {Wx : WX} {k n : Nat} {m x c : Str} {p pos apos p1 : Pos} {e o : Expr} {es : List Expr} {dob : DEn} {da : DAn} {md : Nat → FnD → FnD} {tab : List (Str × FnD)} {F : FnD}
theorem de_meth (hmd : CallMode md) (ht : MOs X ct k n m tab) (hr : Room k X.A) (tk : Takes X Wx) (ho : DE X ct Wx o dob) (ha : DA X ct Wx (e :: es) da) {pl : Sem Bool}
    (hst : starEach (e :: es) X.env = (false, eval e X.env) :: starEach es X.env := by rfl) (hpl : (backTo pos (starEach es X.env)).any (·.1) = false := by rfl)
    (hev : eval (.Call (.Attribute o m apos) (e :: es) [] pos) X.env = (do
      let ov ← eval o X.env
      standAt apos.atName
      let (f, first) ← holding [ov] (getMethod ov m pl)
      callWith pos f first (backTo pos (starEach (e :: es) X.env)) (backToKw pos (keywordEach [] X.env))) := by rfl) : DE X ct Wx (.Call (.Attribute o m apos) (e :: es) [] pos) (dMeth md n m tab dob da) := by
  refine ⟨⟨fun pins s σ H Q I ⟨S, φ, ρ, M, sr, q⟩ => ?_⟩⟩
  refine PySem.W.methodCall_KW (pl := pl) (thn (ho.pe.run pins s σ H (fun x H1 => ∃ C f fd ps a dx fs F, Cls X.K C ∧ Meth X.K C m f ∧ FnOk X.prog X.w X.K X.mg X.base (L2.CX X.prog X.w) k f fd ps (spD X.K ct n F) ∧ Binds X.K fd ps [] ∧ x = .ref a ∧ H1 a = some (.ins C dx fs) ∧ fs.lookup m = none ∧
    rdA X.K ct Wx da σ H1 fun vs H2 => spD X.K ct n F (x :: vs) H2 Q (WE Wx σ)) I ⟨S, φ, ρ, M, sr, PostG.bind q fun φ1 H1 M1 w v l1 sr1 r1 q1 => ?_⟩) fun u s1 ⟨x, H1, I1, rx, C, f, fd, ps, a, dx, fs, F, c, hm, F0, hb, ex, ea, l, q⟩ => ?_) hev
  · split at q1
    · rename_i c ks vs ec
      split at q1
      · rename_i F eF
        obtain ⟨C, f, fd, ps, h1, h2, h3, h4, h5⟩ := ht _ (findM_mem eF)
        obtain ⟨a, C', dx, fs, e1, g1, g2, g3, r⟩ := clsOf_ok sr1.mem r1 ec
        rw [h1] at g2
        cases g2
        split at q1
        · exact q1.elim
        · rename_i hm
          refine ⟨C, f, fd, ps, a, dx, fs, F, h2, h3, h4, h5, e1, g1, lookup_none (by rw [g3]; exact hm), S, φ1, ρ, M1, sr1, PostG.bind q1 fun φ2 H2 M2 ws us l2 sr2 r2 q2 => ?_⟩
          exact hmd sr2 (RVs.cons (RV.mono l2 _ _ r1) r2) q2
      · exact q1.elim
    · exact q1.elim
  · subst ex
    obtain rfl : u = Value.ref a := rx
    refine getmeth_ok I1 ea c hm l ?_
    refine PySem.W.callWith_K (first := [.ref a]) (h₀ := X.base) I.ok.mod.kin hm.kp (thn (ha.pa.run pos pins s1 σ H1 _ I1 q) fun us s2 ⟨vs, H2, I2, r, q2⟩ => ⟨I2.kIn, ?_⟩) hst hpl
    exact run_fnS1 (E := fun σ => WE Wx σ) (us := .ref a :: us) (vs := .ref a :: vs) F0 hr hb (fun σ => passAt tk σ) I2 (.cons rfl r) q2
theorem de_meth0 (hmd : CallMode md) (ht : MOs X ct k n m tab) (hr : Room k X.A) (tk : Takes X Wx) (ho : DE X ct Wx o dob) {pl : Sem Bool}
    (hev : eval (.Call (.Attribute o m apos) [] [] pos) X.env = (do
      let ov ← eval o X.env
      standAt apos.atName
      let (f, first) ← holding [ov] (getMethod ov m pl)
      callWith pos f first (backTo pos (starEach [] X.env)) (backToKw pos (keywordEach [] X.env))) := by rfl) : DE X ct Wx (.Call (.Attribute o m apos) [] [] pos) (dMeth md n m tab dob dNil) := by
  refine ⟨⟨fun pins s σ H Q I ⟨S, φ, ρ, M, sr, q⟩ => ?_⟩⟩
  refine PySem.W.methodCall_KW (pl := pl) (thn (ho.pe.run pins s σ H (fun x H1 => ∃ C f fd ps a dx fs F, Cls X.K C ∧ Meth X.K C m f ∧ FnOk X.prog X.w X.K X.mg X.base (L2.CX X.prog X.w) k f fd ps (spD X.K ct n F) ∧ Binds X.K fd ps [] ∧ x = .ref a ∧ H1 a = some (.ins C dx fs) ∧ fs.lookup m = none ∧
    spD X.K ct n F [x] H1 Q (WE Wx σ)) I ⟨S, φ, ρ, M, sr, PostG.bind q fun φ1 H1 M1 w v l1 sr1 r1 q1 => ?_⟩) fun u s1 ⟨x, H1, I1, rx, C, f, fd, ps, a, dx, fs, F, c, hm, F0, hb, ex, ea, l, q⟩ => ?_) hev
  · split at q1
    · rename_i c ks vs ec
      split at q1
      · rename_i F eF
        obtain ⟨C, f, fd, ps, h1, h2, h3, h4, h5⟩ := ht _ (findM_mem eF)
        obtain ⟨a, C', dx, fs, e1, g1, g2, g3, r⟩ := clsOf_ok sr1.mem r1 ec
        rw [h1] at g2
        cases g2
        split at q1
        · exact q1.elim
        · rename_i hm
          refine ⟨C, f, fd, ps, a, dx, fs, F, h2, h3, h4, h5, e1, g1, lookup_none (by rw [g3]; exact hm), ?_⟩
          exact hmd sr1 (RVs.one r1) q1
      · exact q1.elim
    · exact q1.elim
  · subst ex
    obtain rfl : u = Value.ref a := rx
    refine getmeth_ok I1 ea c hm l ?_
    exact PySem.W.callWith_K0 (first := [.ref a]) I1.kIn hm.kp (run_fnS1 (E := fun σ => WE Wx σ) (us := [.ref a]) (vs := [.ref a]) F0 hr hb (fun σ => passAt tk σ) I1 (.cons rfl .nil) q)
/-- C.m(e, ..) -/
theorem de_off {C f : Addr} {fd : FuncData} {ps : List Str} (hmd : CallMode md) (hg : Gl X x) (hm : X.mg x = some (.ref C)) (O : Off X.K C m f) (G : FnOk X.prog X.w X.K X.mg X.base (L2.CX X.prog X.w) k f fd ps (spD X.K ct n F)) (hb : Binds X.K fd ps []) (hr : Room k X.A) (tk : Takes X Wx) (ha : DA X ct Wx (e :: es) da) {pl : Sem Bool}
    (hdb : (x == ("__debug__" : Str)) = false := by decide)
    (hst : starEach (e :: es) X.env = (false, eval e X.env) :: starEach es X.env := by rfl) (hpl : (backTo pos (starEach es X.env)).any (·.1) = false := by rfl)
    (hev : eval (.Call (.Attribute (.Name x p1) m apos) (e :: es) [] pos) X.env = (do
      let ov ← eval (.Name x p1) X.env
      standAt apos.atName
      let (f, first) ← holding [ov] (getMethod ov m pl)
      callWith pos f first (backTo pos (starEach (e :: es) X.env)) (backToKw pos (keywordEach [] X.env))) := by rfl) : DE X ct Wx (.Call (.Attribute (.Name x p1) m apos) (e :: es) [] pos) (dCall (md n F) da) :=
  ⟨PE.imp (pe_off (E := fun σ => WE Wx σ) hg hm O G hr hb (fun σ => passAt tk σ) ha.pa hdb hst hpl hev) fun σ H Q ⟨S, φ, ρ, M, sr, q⟩ => ⟨S, φ, ρ, M, sr, PostG.bind q fun φ1 H1 M1 ws vs l1 sr1 r1 q1 => hmd sr1 r1 q1⟩⟩

/-! ### C(..) -/
/-- a new instance as a cell -/
def mkC (n : Nat) (c : Str) (F : FnD) (ws : List W) (M : Mem) : Res W := if ws.length + 1 = n then (match F (.loc M.length :: ws) (M ++ [.ins c [] []]) with
  | .ok .non M' => .ok (.loc M.length) M'
  | .exc c e M' => .exc c e M'
  | _ => .bad) else .bad
/-- a new instance as a value -/
def mkV (n : Nat) (c : Str) (F : FnD) (ws : List W) (M : Mem) : Res W := if ws.length + 1 = n ∧ lfs ws = true then (match F (.loc 0 :: ws) [.ins c [] []] with
  | .ok .non M' => (match reify M' (.loc 0) with
    | some u => .ok u M
    | none => .bad)
  | .exc c e _ => .exc c e M
  | _ => .bad) else .bad
def MakeMode (mk : Nat → Str → FnD → FnD) : Prop := ∀ {K : PySem.W.Frag} {ct : CT} {Wx : WX} {S : Addr → Prop} {φ : List Addr} {H : Hp} {ρ : Rho} {M : Mem} {σ : L2.St} {ws : List W} {vs : List V} {Q : VK} {n : Nat} {c : Str} {C : Addr} {F : FnD}, ct c = some C → SR K ct S φ H ρ M σ → RVs K ct S φ H ws vs →
    PostG K ct Wx (RelW K ct) S φ H ρ σ (mk n c F ws M) Q → ∀ x dx, H x = none → H dx = none → dx ≠ x →
      spD K ct n F (.ref x :: vs) (upd (upd H dx (.own x)) x (.ins C dx [])) (fun v H2 => v = .non ∧ Q (.ref x) H2) (WE Wx σ)
theorem non_of {K : PySem.W.Frag} {ct : CT} {S : Addr → Prop} {φ : List Addr} {H : Hp} {v : V} (h : RV K ct S φ H .non v) : v = .non := h
theorem mode_C : MakeMode mkC := by
  intro K ct Wx S φ H ρ M σ ws vs Q n c C F hct sr r q x dx hx hdx hne
  unfold mkC at q
  split at q
  · rename_i hw
    have l1 : Le φ H φ (upd H dx (.own x)) := sr.le hdx
    have sr1 := sr.laid (o := .own x) hdx
    have hx1 : upd H dx (.own x) x = none := by rw [upd_ne (Ne.symm hne)]; exact hx
    have l2 : Le φ (upd H dx (.own x)) (φ ++ [x]) (upd (upd H dx (.own x)) x (.ins C dx [])) := Le.cell hx1
    have sr2 := sr1.newCell (c := .ins c [] []) hx1 ⟨C, dx, [], upd_same, hct, rfl, rfl⟩
    have l := l1.trans l2
    have hg : (φ ++ [x])[M.length]? = some x := by
      rw [← sr.mem.len, List.getElem?_append_right (Nat.le_refl _)]
      simp
    refine ⟨by rw [List.length_cons, ← RVs.length r]; exact hw, S, φ ++ [x], M ++ [.ins c [] []], .loc M.length :: ws, RVs.cons ⟨x, rfl, hg⟩ (RVs.mono l _ _ r), sr2.mem, ?_⟩
    cases e' : F (.loc M.length :: ws) (M ++ [.ins c [] []]) with
    | ok w M' =>
      rw [e'] at q
      cases w with
      | non => exact fun φ' H' v l' rm rv => ⟨rv, q φ' H' _ (l.trans l') ⟨sr.len, fun i w h => let ⟨v, h1, h2⟩ := sr.slot i w h; ⟨v, h1, RV.mono (l.trans l') _ _ h2⟩, rm⟩ ⟨x, rfl, l'.get hg⟩⟩
      | _ => exact q.elim
    | exc c i M' =>
      rw [e'] at q
      exact fun φ' H' cls d l' rm xx => q φ' H' cls d (l.trans l') ⟨sr.len, fun i w h => let ⟨v, h1, h2⟩ := sr.slot i w h; ⟨v, h1, RV.mono (l.trans l') _ _ h2⟩, rm⟩ xx
    | bad =>
      rw [e'] at q
      exact q
  · exact q.elim
theorem mode_V : MakeMode mkV := by
  intro K ct Wx S φ H ρ M σ ws vs Q n c C F hct sr r q x dx hx hdx hne
  unfold mkV at q
  split at q
  · rename_i hw
    have l1 : Le φ H φ (upd H dx (.own x)) := sr.le hdx
    have sr1 := sr.laid (o := .own x) hdx
    have hx1 : upd H dx (.own x) x = none := by rw [upd_ne (Ne.symm hne)]; exact hx
    have fr := sr.mem.fresh hx
    have fd := sr.mem.fresh hdx
    have rm0 : RM K ct (fun a => S a ∨ a ∈ φ) [] (upd H dx (.own x)) [] := sr1.mem.shut
    have rm1 : RM K ct (fun a => S a ∨ a ∈ φ) ([] ++ [x]) (upd (upd H dx (.own x)) x (.ins C dx [])) ([] ++ [.ins c [] []]) := rm0.newCell (c := .ins c [] []) hx1 ⟨C, dx, [], upd_same, hct, rfl, rfl⟩
    have lc : Le [] (upd H dx (.own x)) ([] ++ [x]) (upd (upd H dx (.own x)) x (.ins C dx [])) := Le.cell hx1
    have rws := RVs.mono lc ws vs (RVs.own (fun a _ h => Im.shut h) ws vs hw.2 (RVs.mono l1 _ _ r))
    refine ⟨by rw [List.length_cons, ← RVs.length r]; exact hw.1, _, [] ++ [x], [] ++ [.ins c [] []], .loc 0 :: ws, RVs.cons ⟨x, rfl, rfl⟩ rws, rm1, ?_⟩
    show match F (.loc 0 :: ws) [.ins c [] []] with | .ok w M' => _ | .exc c e M' => _ | .bad => False
    cases e' : F (.loc 0 :: ws) [.ins c [] []] with
    | ok w M' =>
      rw [e'] at q
      cases w with
      | non =>
        dsimp only at q
        intro φ2 H2 v l rm rv
        have lA := lc.trans l
        have l' : Le φ (upd H dx (.own x)) φ H2 := lA.shut φ
        refine ⟨rv, ?_⟩
        split at q
        · rename_i u eu
          have hg : φ2[0]? = some x := l.get rfl
          refine q φ H2 (.ref x) (l1.trans l') (sr1.shut lA) (RV.reloc (S' := fun a => S a ∨ a ∈ φ) (φ' := φ2) (fun a _ h => Im.open h) (fun k w a e1 e2 => locRes_ok rm (fun a _ h => Im.open h) (fun a ha => ?_) 8 k w a e1 e2) (.loc 0) u _ eu ⟨x, rfl, hg⟩)
          have hn : upd H dx (.own x) a = none := by
            cases e2 : upd H dx (.own x) a with
            | none => rfl
            | some o => exact absurd (lA.new a (by rw [e2]; simp) ha) (fun z => nomatch z)
          exact ⟨fun z => sr1.mem.liveS a z hn, fun z => sr1.mem.live a z hn⟩
        · exact q.elim
      | _ => exact q.elim
    | exc c i M' =>
      rw [e'] at q
      exact fun φ2 H2 cls d l rm xx => q φ H2 cls d (l1.trans ((lc.trans l).shut φ)) (sr1.shut (lc.trans l)) xx
    | bad =>
      rw [e'] at q
      exact q
  · exact q.elim
theorem de_make {mk : Nat → Str → FnD → FnD} {C f : Addr} {fd : FuncData} {ps : List Str} (hmk : MakeMode mk) (hct : ct c = some C) (M : Mk X.K C f) (G : FnOk X.prog X.w X.K X.mg X.base (L2.CX X.prog X.w) k f fd ps (spD X.K ct n F)) (hb : Binds X.K fd ps []) (hr : Room (k + 1) X.A) (hg : Gl X x) (hm : X.mg x = some (.ref C)) (tk : Takes X Wx)
    (ha : DA X ct Wx (e :: es) da) (hdb : (x == ("__debug__" : Str)) = false := by decide) (he : starEach (e :: es) X.env = (false, eval e X.env) :: starEach es X.env := by rfl) (hpl : (backTo pos (starEach es X.env)).any (·.1) = false := by rfl) :
    DE X ct Wx (.Call (.Name x p) (e :: es) [] pos) (dCall (mk n c F) da) :=
  ⟨PE.imp (pe_makeS (E := fun σ => WE Wx σ) M G hr hg hm hb (fun σ => passAt tk σ) ha.pa hdb he hpl) fun σ H Q ⟨S, φ, ρ, M, sr, q⟩ => ⟨S, φ, ρ, M, sr, PostG.bind q fun φ1 H1 M1 ws vs l1 sr1 r1 q1 => hmk hct sr1 r1 q1⟩⟩
theorem de_make0 {mk : Nat → Str → FnD → FnD} {C f : Addr} {fd : FuncData} {ps : List Str} (hmk : MakeMode mk) (hct : ct c = some C) (M : Mk X.K C f) (G : FnOk X.prog X.w X.K X.mg X.base (L2.CX X.prog X.w) k f fd ps (spD X.K ct n F)) (hb : Binds X.K fd ps []) (hr : Room (k + 1) X.A) (hg : Gl X x) (hm : X.mg x = some (.ref C)) (tk : Takes X Wx)
    (hdb : (x == ("__debug__" : Str)) = false := by decide) : DE X ct Wx (.Call (.Name x p) [] [] pos) (dCall (mk n c F) dNil) :=
  ⟨PE.imp (pe_make0S (E := fun σ => WE Wx σ) M G hr hg hm hb (fun σ => passAt tk σ) hdb) fun σ H Q ⟨S, φ, ρ, M, sr, q⟩ => hmk hct sr RVs.nil q⟩
end
end LP

/-! LPIx: more rules for reckoning -/
namespace LP
open PySem PySem.Spec L2
theorem depE_le {x : List Pc} : ∀ {rs : List (List Pc)}, x ∈ rs → 1 + depR x ≤ depE rs
  | y :: rs, h => by
    rcases List.mem_cons.mp h with e | e
    · subst e; simp only [depE]; omega
    · have := depE_le e; simp only [depE]; omega
theorem depR_le {p : Pc} : ∀ {ps : List Pc}, p ∈ ps → depP p ≤ depR ps
  | y :: ps, h => by
    rcases List.mem_cons.mp h with e | e
    · subst e; simp only [depR]; omega
    · have := depR_le e; simp only [depR]; omega
section
variable {a b c d e : W} {r : List W} {M : Mem} {ρ : Rho}
theorem atI_at {α : Type} {xs : List α} {i : Nat} {v : α} (h : xs[i]? = some v) : atI xs (i : Int) = some v := atI_nat h
@[simp] theorem ixt0 : vIx (.tup (a :: r)) (.int 0) M = .ok a M := ix_t (atI_at (i := 0) rfl)
@[simp] theorem ixt1 : vIx (.tup (a :: b :: r)) (.int 1) M = .ok b M := ix_t (atI_at (i := 1) rfl)
@[simp] theorem ixt2 : vIx (.tup (a :: b :: c :: r)) (.int 2) M = .ok c M := ix_t (atI_at (i := 2) rfl)
@[simp] theorem ixt3 : vIx (.tup (a :: b :: c :: d :: r)) (.int 3) M = .ok d M := ix_t (atI_at (i := 3) rfl)
@[simp] theorem ixl0 : vIx (.lst (a :: r)) (.int 0) M = .ok a M := ix_l (atI_at (i := 0) rfl)
@[simp] theorem ixl1 : vIx (.lst (a :: b :: r)) (.int 1) M = .ok b M := ix_l (atI_at (i := 1) rfl)
@[simp] theorem ixl2 : vIx (.lst (a :: b :: c :: r)) (.int 2) M = .ok c M := ix_l (atI_at (i := 2) rfl)
@[simp] theorem ixl3 : vIx (.lst (a :: b :: c :: d :: r)) (.int 3) M = .ok d M := ix_l (atI_at (i := 3) rfl)
def enumK (ws : List W) (M : Mem) : Res (List W) := match ws with
  | [.tup us] => .ok (enumW 0 us) M
  | _ => .bad
@[simp] theorem dEnumT_eq {d : DAn} : dEnumT d ρ M = (d ρ M).bind enumK := (rfl)
@[simp] theorem enumK_t {us : List W} : enumK [.tup us] M = .ok (enumW 0 us) M := (rfl)
@[simp] theorem pair_tt {α : Type} {x y : Option α} : gT [3, 4] (.tup [a, b]) ρ M = some ((ρ.set 3 (some a)).set 4 (some b)) := (rfl)
-- classes
@[simp] theorem dFld_eq {cs : List Str} {f : Str} {d : DEn} : dFld cs f d ρ M = (d ρ M).bind (getF cs f) := (rfl)
@[simp] theorem sFld_eq {cs : List Str} {f : Str} {dob dv : DEn} : sFld cs f dob dv ρ M = (dv ρ M).to ρ fun w M1 => (dob ρ M1).to ρ fun o M2 => putAt cs f o w ρ M2 := (rfl)
def fldA (cs : List Str) (f : Str) (op : W → W → Mem → Res W) (dv : DEn) (ρ : Rho) (o : W) (M1 : Mem) : SRes := match getC cs f o M1 with
  | some (c, u) => (dv ρ M1).to ρ fun w M2 => (op u w M2).to ρ fun z M3 => putAt [c] f o z ρ M3
  | none => .bad
@[simp] theorem sFldA_eq {cs : List Str} {f : Str} {op : W → W → Mem → Res W} {dob dv : DEn} : sFldA cs f op dob dv ρ M = (dob ρ M).to ρ (fldA cs f op dv ρ) := (rfl)
def methK (md : Nat → FnD → FnD) (n : Nat) (m : Str) (tab : List (Str × FnD)) (ra : Mem → Res (List W)) (o : W) (M1 : Mem) : Res W := match clsOf M1 o with
  | some (c, ks, _) => (match findM tab c with
    | some F => if m ∈ ks then .bad else (ra M1).bind fun ws M2 => md n F (o :: ws) M2
    | none => .bad)
  | none => .bad
@[simp] theorem dMeth_eq {md : Nat → FnD → FnD} {n : Nat} {m : Str} {tab : List (Str × FnD)} {dob : DEn} {da : DAn} : dMeth md n m tab dob da ρ M = (dob ρ M).bind (methK md n m tab (da ρ)) := (rfl)
theorem callS_ok {n : Nat} {F : FnD} {ws : List W} (h : ws.length = n) : callS n F ws M = F ws M := if_pos h
end
end LP

namespace K07
open PySem PySem.Spec L2 LP
/-! ### the text -/
def top (i : Nat) : Stmt := PySem.Challenge.pw_linepress_k07_tokens_told.main.body.getD i (.Pass ⟨0, 0, 0, 0⟩)
abbrev s_tokens : Stmt := top 1
theorem sc_tokens : FnScope ["row", "found", "piece", "at", "inner"] ["row"] (defScope s_tokens) := ⟨rfl, rfl, rfl, by decide +kernel, rfl, by decide +kernel, by decide +kernel⟩
abbrev s__law_cell_at : Stmt := top 3
theorem sc__law_cell_at : FnScope ["_law_script", "_law_k"] ["_law_script", "_law_k"] (defScope s__law_cell_at) := ⟨rfl, rfl, rfl, by decide +kernel, rfl, by decide +kernel, by decide +kernel⟩
abbrev s__law_mixed : Stmt := top 4
theorem sc__law_mixed : FnScope ["_law_script", "_law_k", "_law_salt", "_law_cell", "_law_lap", "_law_near"] ["_law_script", "_law_k", "_law_salt"] (defScope s__law_mixed) := ⟨rfl, rfl, rfl, by decide +kernel, rfl, by decide +kernel, by decide +kernel⟩
abbrev s__law_word : Stmt := top 5
theorem sc__law_word : FnScope ["_law_number", "_law_signs", "_law_size", "_law_step", "_law_word_here", "_law_j"] ["_law_number"] (defScope s__law_word) := ⟨rfl, rfl, rfl, by decide +kernel, rfl, by decide +kernel, by decide +kernel⟩
abbrev s__law_whole : Stmt := top 6
theorem sc__law_whole : FnScope ["_law_found"] ["_law_found"] (defScope s__law_whole) := ⟨rfl, rfl, rfl, by decide +kernel, rfl, by decide +kernel, by decide +kernel⟩
abbrev s__law_leaf : Stmt := top 7
theorem sc__law_leaf : FnScope ["_law_number", "_law_some_here"] ["_law_number"] (defScope s__law_leaf) := ⟨rfl, rfl, rfl, by decide +kernel, rfl, by decide +kernel, by decide +kernel⟩
abbrev s__law_shutting : Stmt := top 8
theorem sc__law_shutting : FnScope ["_law_some_here", "_law_now", "_law_word_here", "_law_rows"] ["_law_some_here", "_law_now"] (defScope s__law_shutting) := ⟨rfl, rfl, rfl, by decide +kernel, rfl, by decide +kernel, by decide +kernel⟩
abbrev s__law_tokens : Stmt := top 9
theorem sc__law_tokens : FnScope ["_law_script", "_law_at", "_law_many", "_law_nest", "_law_some_here", "_law_now", "_law_k", "_law_number", "_law_way", "_law_word_here"] ["_law_script", "_law_at", "_law_many", "_law_nest"] (defScope s__law_tokens) := ⟨rfl, rfl, rfl, by decide +kernel, rfl, by decide +kernel, by decide +kernel⟩
abbrev s__law_built : Stmt := top 10
theorem sc__law_built : FnScope ["_law_some_here", "_law_frames", "_law_token", "_law_head", "_law_full", "_law_parts", "_law_piece"] ["_law_some_here"] (defScope s__law_built) := ⟨rfl, rfl, rfl, by decide +kernel, rfl, by decide +kernel, by decide +kernel⟩
abbrev s__law_same : Stmt := top 11
theorem sc__law_same : FnScope ["_law_found", "_law_due", "_law_k"] ["_law_found", "_law_due"] (defScope s__law_same) := ⟨rfl, rfl, rfl, by decide +kernel, rfl, by decide +kernel, by decide +kernel⟩
abbrev s__law_some : Stmt := top 12
theorem sc__law_some : FnScope ["_law_script", "_law_number", "_law_many", "_law_k", "_law_deep", "_law_word_here", "_law_head", "_law_shut"] ["_law_script"] (defScope s__law_some) := ⟨rfl, rfl, rfl, by decide +kernel, rfl, by decide +kernel, by decide +kernel⟩
abbrev s_law : Stmt := top 13
theorem sc_law : FnScope ["_law_script", "_law_some_here", "_law_row", "_law_lap", "_law_found", "_law_at", "_law_front"] ["_law_script"] (defScope s_law) := ⟨rfl, rfl, rfl, by decide +kernel, rfl, by decide +kernel, by decide +kernel⟩
inductive Fn where
  | f_tokens | f__law_cell_at | f__law_mixed | f__law_word | f__law_whole | f__law_leaf | f__law_shutting | f__law_tokens | f__law_built | f__law_same | f__law_some | f_law
/-! ### what each def computes -/
def L_tokens_1 (F : Fn → FnD) : DSn := sSeq (sIf (toB (dBin (vGt) (dVar 3) (dC (.int 0)))) (sExpr (dMl fAppend (dVar 1) (dCons (dTup (dCons (dC (.str "or")) (dNil))) (dNil)))) (sNext)) (sExpr (dMl fExtend (dVar 1) (dCons (dCall (callP 1 (F .f_tokens)) (dCons (dVar 4) (dNil))) (dNil))))
def L_tokens_2 (F : Fn → FnD) : DSn := sIf (toB (dBin (vEq id) (dBin vIx (dVar 2) (dC (.int 0))) (dC (.str "group")))) (sExpr (dMl fExtend (dVar 1) (dCons (dBin vAdd (dBin vAdd (dImm (dLst (dCons (dTup (dCons (dC (.str "open")) (dNil))) (dNil)))) (dCall (callP 1 (F .f_tokens)) (dCons (dBin vIx (dVar 2) (dC (.int 1))) (dNil)))) (dImm (dLst (dCons (dTup (dCons (dC (.str "close")) (dNil))) (dNil))))) (dNil)))) (sIf (toB (dBin (vEq id) (dBin vIx (dVar 2) (dC (.int 0))) (dC (.str "hang")))) (sExpr (dMl fExtend (dVar 1) (dCons (dBin vAdd (dBin vAdd (dImm (dLst (dCons (dTup (dCons (dC (.str "hang")) (dCons (dBin vIx (dVar 2) (dC (.int 1))) (dNil)))) (dNil)))) (dCall (callP 1 (F .f_tokens)) (dCons (dBin vIx (dVar 2) (dC (.int 2))) (dNil)))) (dImm (dLst (dCons (dTup (dCons (dC (.str "back")) (dNil))) (dNil))))) (dNil)))) (sIf (toB (dBin (vEq id) (dBin vIx (dVar 2) (dC (.int 0))) (dC (.str "either")))) (sSeq (sExpr (dMl fAppend (dVar 1) (dCons (dTup (dCons (dC (.str "either")) (dNil))) (dNil)))) (sSeq (sFor (dEnumT (dCons (dBin vIx (dVar 2) (dC (.int 1))) (dNil))) (gT [3, 4]) (L_tokens_1 F)) (sExpr (dMl fAppend (dVar 1) (dCons (dTup (dCons (dC (.str "done")) (dNil))) (dNil)))))) (sExpr (dMl fAppend (dVar 1) (dCons (dVar 2) (dNil))))))
def B_tokens (F : Fn → FnD) : DSn := sSeq (sSet 1 (dMut (dLst (dNil)))) (sSeq (sFor (dStill seqW (dVar 0)) (gN 2) (L_tokens_2 F)) (sRet (dVar 1)))
def B__law_cell_at (F : Fn → FnD) : DSn := sSeq (sIf (toB (dBin (vEq id) (dCall fLen (dCons (dVar 0) (dNil))) (dC (.int 0)))) (sRet (dC (.int 0))) (sNext)) (sRet (dBin vIx (dVar 0) (dBin vMod (dVar 1) (dCall fLen (dCons (dVar 0) (dNil))))))
def B__law_mixed (F : Fn → FnD) : DSn := sSeq (sSet 3 (dCall (callP 2 (F .f__law_cell_at)) (dCons (dVar 0) (dCons (dVar 1) (dNil))))) (sSeq (sSet 4 (dBin vDiv (dVar 1) (dCall fMax2 (dCons (dC (.int 1)) (dCons (dCall fLen (dCons (dVar 0) (dNil))) (dNil)))))) (sSeq (sSet 5 (dBin vAdd (dBin vAdd (dBin vAdd (dBin vAnd (dVar 3) (dC (.int 2147483647))) (dBin vMul (dBin vMul (dC (.int 1009)) (dVar 1)) (dVar 1))) (dBin vMul (dBin vMul (dC (.int 7919)) (dVar 2)) (dVar 2))) (dC (.int 12)))) (sSeq (sSet 5 (dBin vMod (dBin vMul (dVar 5) (dC (.int 48271))) (dC (.int 2147483647)))) (sSeq (sSet 5 (dBin vMod (dBin vMul (dVar 5) (dVar 5)) (dC (.int 2147483629)))) (sRet (dBin vAnd (dBin vAdd (dBin vShr (dVar 3) (dBin vMul (dC (.int 31)) (dBin vAdd (dVar 2) (dBin vMul (dC (.int 128)) (dVar 4))))) (dVar 5)) (dC (.int 2147483647))))))))
def L__law_word_1 (F : Fn → FnD) : DSn := sSet 4 (dBin vAdd (dVar 4) (dBin vIx (dVar 1) (dBin vMod (dBin vAdd (dBin vDiv (dVar 0) (dC (.int 12))) (dBin vMul (dVar 5) (dVar 3))) (dC (.int 93)))))
def B__law_word (F : Fn → FnD) : DSn := sSeq (sSet 1 (dC (.str "abcdefghijklmnopqrstuvwxyzABCDEFGHIJKLMNOPQRSTUVWXYZ0123456789"))) (sSeq (sSet 1 (dBin vAdd (dVar 1) (dC (.str "!\"#$&'()*+,-./:;<=>?\x40[\\]^_`{|}~")))) (sSeq (sSet 2 (dBin vIx (dImm (dLst (dCons (dC (.int 1)) (dCons (dC (.int 2)) (dCons (dC (.int 3)) (dCons (dC (.int 4)) (dCons (dC (.int 5)) (dCons (dC (.int 6)) (dCons (dC (.int 7)) (dCons (dC (.int 8)) (dCons (dC (.int 10)) (dCons (dC (.int 11)) (dCons (dC (.int 9)) (dCons (dC (.int 12)) (dNil))))))))))))))) (dBin vMod (dVar 0) (dC (.int 12))))) (sSeq (sSet 3 (dBin vMod (dBin vDiv (dVar 0) (dC (.int 9000))) (dC (.int 93)))) (sSeq (sSet 4 (dC (.str ""))) (sSeq (sFor (dRange1 (dCons (dVar 2) (dNil))) (gN 5) (L__law_word_1 F)) (sRet (dVar 4)))))))
def B__law_whole (F : Fn → FnD) : DSn := sRet (dAndV (toB (dIsT .int (dVar 0))) (dNotV (toB (dIsT .bl (dVar 0)))))
def B__law_leaf (F : Fn → FnD) : DSn := sSeq (sSet 1 (dBin vDiv (dVar 0) (dC (.int 16)))) (sSeq (sIf (toB (dBin (vLt) (dBin vMod (dVar 0) (dC (.int 16))) (dC (.int 8)))) (sRet (dTup (dCons (dC (.str "word")) (dCons (dCall (callP 1 (F .f__law_word)) (dCons (dVar 1) (dNil))) (dNil))))) (sNext)) (sSeq (sIf (toB (dBin (vLt) (dBin vMod (dVar 0) (dC (.int 16))) (dC (.int 13)))) (sRet (dTup (dCons (dC (.str "gap")) (dCons (dBin vIx (dImm (dLst (dCons (dC (.str " ")) (dCons (dC (.str " ")) (dCons (dC (.str " ")) (dCons (dC (.str "")) (dNil))))))) (dBin vMod (dVar 1) (dC (.int 4)))) (dNil))))) (sNext)) (sSeq (sIf (toB (dBin (vEq id) (dBin vMod (dVar 0) (dC (.int 16))) (dC (.int 13)))) (sRet (dTup (dCons (dC (.str "end")) (dNil)))) (sNext)) (sRet (dTup (dCons (dC (.str "stop")) (dCons (dBin vIx (dImm (dLst (dCons (dBin vMod (dBin vDiv (dVar 1) (dC (.int 2))) (dC (.int 10))) (dCons (dBin vMod (dBin vDiv (dVar 1) (dC (.int 2))) (dC (.int 41))) (dNil))))) (dBin vMod (dVar 1) (dC (.int 2)))) (dNil))))))))
def B__law_shutting (F : Fn → FnD) : DSn := sSeq (sAsg (gU [2, 3]) (dMl fPop (dVar 1) (dNil))) (sSeq (sIf (dAnd (toB (dBin (vEq id) (dVar 2) (dC (.str "either")))) (toB (dBin (vEq id) (dVar 3) (dC (.int 1))))) (sExpr (dMl fAppend (dVar 0) (dCons (dTup (dCons (dC (.str "or")) (dNil))) (dNil)))) (sNext)) (sExpr (dMl fAppend (dVar 0) (dCons (dTup (dCons (dPick ["open", "hang", "either"] (dCons (dC (.str "close")) (dCons (dC (.str "back")) (dCons (dC (.str "done")) (dNil)))) (dVar 2)) (dNil))) (dNil)))))
def L__law_tokens_1 (F : Fn → FnD) : DTn := dAnd (toB (dBin (vLt) (dVar 8) (dC (.int 7)))) (dAnd (toB (dBin (vGt) (dCall fLen (dCons (dVar 5) (dNil))) (dC (.int 0)))) (dAnd (toB (dBin (vEq id) (dBin vIx (dBin vIx (dVar 5) (dNeg (dC (.int 1)))) (dC (.int 0))) (dC (.str "either")))) (toB (dBin (vLt) (dBin vIx (dBin vIx (dVar 5) (dNeg (dC (.int 1)))) (dC (.int 1))) (dC (.int 4))))))
def L__law_tokens_2 (F : Fn → FnD) : DSn := sSeq (sPut (dBin vAdd (dBin vIx (dBin vIx (dVar 5) (dNeg (dC (.int 1)))) (dC (.int 1))) (dC (.int 1))) (dBin vIx (dVar 5) (dNeg (dC (.int 1)))) (dC (.int 1))) (sExpr (dMl fAppend (dVar 4) (dCons (dTup (dCons (dC (.str "or")) (dNil))) (dNil))))
def L__law_tokens_3 (F : Fn → FnD) : DSn := sExpr (dMl fAppend (dVar 4) (dCons (dCall (callP 1 (F .f__law_leaf)) (dCons (dCall (callP 3 (F .f__law_mixed)) (dCons (dVar 0) (dCons (dVar 6) (dCons (dC (.int 32)) (dNil))))) (dNil))) (dNil)))
def L__law_tokens_4 (F : Fn → FnD) : DTn := dAnd (toB (dBin (vEq id) (dVar 8) (dC (.int 4)))) (toB (dBin (vGt) (dCall fLen (dCons (dVar 5) (dNil))) (dC (.int 0))))
def L__law_tokens_5 (F : Fn → FnD) : DSn := sExpr (dCall (fun ws M => if ws.length = 2 then F .f__law_shutting ws M else .bad) (dCons (dVar 4) (dCons (dVar 5) (dNil))))
def L__law_tokens_6 (F : Fn → FnD) : DSn := sIf (L__law_tokens_1 F) (L__law_tokens_2 F) (L__law_tokens_3 F)
def L__law_tokens_7 (F : Fn → FnD) : DTn := dAnd (toB (dBin (vLt) (dVar 8) (dC (.int 4)))) (toB (dBin (vLt) (dCall fLen (dCons (dVar 5) (dNil))) (dVar 3)))
def L__law_tokens_8 (F : Fn → FnD) : DSn := sSeq (sSet 9 (dBin vIx (dImm (dLst (dCons (dC (.str "open")) (dCons (dC (.str "open")) (dCons (dC (.str "hang")) (dCons (dC (.str "either")) (dNil))))))) (dVar 8))) (sSeq (sExpr (dMl fAppend (dVar 4) (dCons (dBin vIx (dImm (dLst (dCons (dTup (dCons (dVar 9) (dNil))) (dCons (dTup (dCons (dC (.str "hang")) (dCons (dBin vMod (dBin vDiv (dVar 7) (dC (.int 13))) (dC (.int 13))) (dNil)))) (dNil))))) (dCall fInt (dCons (dBin (vEq id) (dVar 9) (dC (.str "hang"))) (dNil)))) (dNil)))) (sExpr (dMl fAppend (dVar 5) (dCons (dMut (dLst (dCons (dVar 9) (dCons (dC (.int 1)) (dNil))))) (dNil)))))
def L__law_tokens_9 (F : Fn → FnD) : DSn := sIf (L__law_tokens_4 F) (L__law_tokens_5 F) (L__law_tokens_6 F)
def L__law_tokens_10 (F : Fn → FnD) : DSn := sSeq (sSet 7 (dCall (callP 3 (F .f__law_mixed)) (dCons (dVar 0) (dCons (dVar 6) (dCons (dC (.int 31)) (dNil)))))) (sSeq (sSet 8 (dBin vMod (dVar 7) (dC (.int 13)))) (sIf (L__law_tokens_7 F) (L__law_tokens_8 F) (L__law_tokens_9 F)))
def L__law_tokens_11 (F : Fn → FnD) : DSn := sExpr (dCall (fun ws M => if ws.length = 2 then F .f__law_shutting ws M else .bad) (dCons (dVar 4) (dCons (dVar 5) (dNil))))
def B__law_tokens (F : Fn → FnD) : DSn := sSeq (sSet 4 (dMut (dLst (dNil)))) (sSeq (sSet 5 (dMut (dLst (dNil)))) (sSeq (sFor (dRange2 (dCons (dVar 1) (dCons (dBin vAdd (dVar 1) (dVar 2)) (dNil)))) (gN 6) (L__law_tokens_10 F)) (sSeq (sWhile (toB (dBin (vGt) (dCall fLen (dCons (dVar 5) (dNil))) (dC (.int 0)))) (L__law_tokens_11 F)) (sRet (dVar 4)))))
def L__law_built_1 (F : Fn → FnD) : DTn := toB (dBin (vEq not) (dBin vIx (dVar 3) (dC (.int 0))) (dC (.str "either")))
def L__law_built_2 (F : Fn → FnD) : DSn := sSet 6 (dBin vAdd (dBin vAdd (dTup (dCons (dBin vIx (dImm (dLst (dCons (dC (.str "group")) (dCons (dC (.str "hang")) (dNil))))) (dCall fInt (dCons (dBin (vEq id) (dBin vIx (dVar 3) (dC (.int 0))) (dC (.str "hang"))) (dNil)))) (dNil))) (dSl (dVar 3) (oSome (dC (.int 1))) (oNone))) (dTup (dCons (dBin vIx (dVar 4) (dC (.int 0))) (dNil))))
def L__law_built_3 (F : Fn → FnD) : DTn := toB (dBin (vIn fun b => if false then !b else b) (dBin vIx (dVar 2) (dC (.int 0))) (dImm (dLst (dCons (dC (.str "close")) (dCons (dC (.str "back")) (dCons (dC (.str "done")) (dNil)))))))
def L__law_built_4 (F : Fn → FnD) : DSn := sSeq (sAsg (gU [3, 4, 5]) (dMl fPop (dVar 1) (dNil))) (sSeq (sSet 4 (dBin vAdd (dVar 4) (dImm (dLst (dCons (dCall fTuple (dCons (dVar 5) (dNil))) (dNil)))))) (sSeq (sSet 6 (dTup (dCons (dC (.str "either")) (dCons (dCall fTuple (dCons (dVar 4) (dNil))) (dNil))))) (sSeq (sIf (L__law_built_1 F) (L__law_built_2 F) (sNext)) (sExpr (dMl fAppend (dBin vIx (dBin vIx (dVar 1) (dNeg (dC (.int 1)))) (dC (.int 2))) (dCons (dVar 6) (dNil)))))))
def L__law_built_5 (F : Fn → FnD) : DSn := sExpr (dMl fAppend (dBin vIx (dBin vIx (dVar 1) (dNeg (dC (.int 1)))) (dC (.int 2))) (dCons (dVar 2) (dNil)))
def L__law_built_6 (F : Fn → FnD) : DTn := toB (dBin (vEq id) (dBin vIx (dVar 2) (dC (.int 0))) (dC (.str "or")))
def L__law_built_7 (F : Fn → FnD) : DSn := sSeq (sExpr (dMl fAppend (dBin vIx (dBin vIx (dVar 1) (dNeg (dC (.int 1)))) (dC (.int 1))) (dCons (dCall fTuple (dCons (dBin vIx (dBin vIx (dVar 1) (dNeg (dC (.int 1)))) (dC (.int 2))) (dNil))) (dNil)))) (sPut (dMut (dLst (dNil))) (dBin vIx (dVar 1) (dNeg (dC (.int 1)))) (dC (.int 2)))
def L__law_built_8 (F : Fn → FnD) : DSn := sIf (L__law_built_3 F) (L__law_built_4 F) (L__law_built_5 F)
def L__law_built_9 (F : Fn → FnD) : DTn := toB (dBin (vIn fun b => if false then !b else b) (dBin vIx (dVar 2) (dC (.int 0))) (dImm (dLst (dCons (dC (.str "open")) (dCons (dC (.str "hang")) (dCons (dC (.str "either")) (dNil)))))))
def L__law_built_10 (F : Fn → FnD) : DSn := sExpr (dMl fAppend (dVar 1) (dCons (dMut (dLst (dCons (dVar 2) (dCons (dMut (dLst (dNil))) (dCons (dMut (dLst (dNil))) (dNil)))))) (dNil)))
def L__law_built_11 (F : Fn → FnD) : DSn := sIf (L__law_built_6 F) (L__law_built_7 F) (L__law_built_8 F)
def L__law_built_12 (F : Fn → FnD) : DSn := sIf (L__law_built_9 F) (L__law_built_10 F) (L__law_built_11 F)
def B__law_built (F : Fn → FnD) : DSn := sSeq (sSet 1 (dMut (dLst (dCons (dMut (dLst (dCons (dTup (dCons (dC (.str "top")) (dNil))) (dCons (dMut (dLst (dNil))) (dCons (dMut (dLst (dNil))) (dNil)))))) (dNil))))) (sSeq (sFor (dStill seqW (dVar 0)) (gN 2) (L__law_built_12 F)) (sRet (dCall fTuple (dCons (dBin vIx (dBin vIx (dVar 1) (dC (.int 0))) (dC (.int 2))) (dNil)))))
def L__law_same_1 (F : Fn → FnD) : DSn := sIf (toB (dIsT .tup (dBin vIx (dVar 1) (dVar 2)))) (sIf (dNot (toB (dCall (callP 2 (F .f__law_same)) (dCons (dBin vIx (dVar 0) (dVar 2)) (dCons (dBin vIx (dVar 1) (dVar 2)) (dNil)))))) (sRet (dC (.bl false))) (sNext)) (sIf (toB (dIsT .str (dBin vIx (dVar 1) (dVar 2)))) (sIf (dOr (dNot (toB (dIsT .str (dBin vIx (dVar 0) (dVar 2))))) (toB (dBin (vEq not) (dBin vIx (dVar 0) (dVar 2)) (dBin vIx (dVar 1) (dVar 2))))) (sRet (dC (.bl false))) (sNext)) (sIf (dOr (dNot (toB (dCall (callP 1 (F .f__law_whole)) (dCons (dBin vIx (dVar 0) (dVar 2)) (dNil))))) (toB (dBin (vEq not) (dBin vIx (dVar 0) (dVar 2)) (dBin vIx (dVar 1) (dVar 2))))) (sRet (dC (.bl false))) (sNext)))
def B__law_same (F : Fn → FnD) : DSn := sSeq (sIf (dOr (dNot (toB (dIsT .tup (dVar 0)))) (toB (dBin (vEq not) (dCall fLen (dCons (dVar 0) (dNil))) (dCall fLen (dCons (dVar 1) (dNil)))))) (sRet (dC (.bl false))) (sNext)) (sSeq (sFor (dRange1 (dCons (dCall fLen (dCons (dVar 1) (dNil))) (dNil))) (gN 2) (L__law_same_1 F)) (sRet (dC (.bl true))))
def B__law_some (F : Fn → FnD) : DSn := sSeq (sSet 1 (dCall (callP 3 (F .f__law_mixed)) (dCons (dVar 0) (dCons (dC (.int 0)) (dCons (dC (.int 40)) (dNil)))))) (sSeq (sSet 2 (dCall fMin2 (dCons (dBin vAdd (dCall fLen (dCons (dVar 0) (dNil))) (dC (.int 2))) (dCons (dC (.int 40)) (dNil))))) (sSeq (sIf (toB (dBin (vEq id) (dBin vMod (dVar 1) (dC (.int 8))) (dC (.int 1)))) (sRet (dComp (dRange1 (dCons (dBin vAdd (dC (.int 196)) (dBin vMod (dBin vDiv (dVar 1) (dC (.int 8))) (dC (.int 5)))) (dNil))) 3 dYes (dCall (callP 1 (F .f__law_leaf)) (dCons (dCall (callP 3 (F .f__law_mixed)) (dCons (dVar 0) (dCons (dVar 3) (dCons (dC (.int 41)) (dNil))))) (dNil))))) (sNext)) (sSeq (sIf (toB (dBin (vEq id) (dBin vMod (dVar 1) (dC (.int 8))) (dC (.int 3)))) (sSeq (sSet 4 (dBin vAdd (dC (.int 9)) (dBin vMod (dBin vDiv (dVar 1) (dC (.int 8))) (dC (.int 4))))) (sSeq (sSet 5 (dBin vIx (dImm (dLst (dCons (dC (.str "open")) (dCons (dC (.str "hang")) (dCons (dC (.str "either")) (dNil)))))) (dBin vMod (dBin vDiv (dVar 1) (dC (.int 32))) (dC (.int 3))))) (sSeq (sSet 6 (dBin vIx (dImm (dLst (dCons (dTup (dCons (dVar 5) (dNil))) (dCons (dTup (dCons (dC (.str "hang")) (dCons (dC (.int 3)) (dNil)))) (dNil))))) (dCall fInt (dCons (dBin (vEq id) (dVar 5) (dC (.str "hang"))) (dNil))))) (sSeq (sSet 7 (dPick ["open", "hang", "either"] (dCons (dImm (dLst (dCons (dTup (dCons (dC (.str "close")) (dNil))) (dNil)))) (dCons (dImm (dLst (dCons (dTup (dCons (dC (.str "back")) (dNil))) (dNil)))) (dCons (dImm (dLst (dCons (dTup (dCons (dC (.str "or")) (dNil))) (dCons (dTup (dCons (dC (.str "end")) (dNil))) (dCons (dTup (dCons (dC (.str "done")) (dNil))) (dNil)))))) (dNil)))) (dVar 5))) (sRet (dBin vAdd (dBin vAdd (dImm (dRep (dImm (dLst (dCons (dVar 6) (dNil)))) (dVar 4))) (dCall (callP 4 (F .f__law_tokens)) (dCons (dVar 0) (dCons (dC (.int 0)) (dCons (dVar 2) (dCons (dC (.int 0)) (dNil))))))) (dImm (dRep (dVar 7) (dVar 4))))))))) (sNext)) (sRet (dCall (callP 4 (F .f__law_tokens)) (dCons (dVar 0) (dCons (dC (.int 0)) (dCons (dVar 2) (dCons (dC (.int 4)) (dNil))))))))))
def L_law_1 (F : Fn → FnD) : DSn := sSeq (sSet 4 (dCall (callF 1 (F .f_tokens)) (dCons (dVar 2) (dNil)))) (sSeq (sIf (dOr (dNot (toB (dIsT .lst (dVar 4)))) (dNot (toB (dCall (callP 2 (F .f__law_same)) (dCons (dCall fTuple (dCons (dVar 4) (dNil))) (dCons (dCall fTuple (dCons (dVar 1) (dNil))) (dNil))))))) (sRet (dC (.bl false))) (sNext)) (sExpr (dMl fClear (dVar 4) (dNil))))
def B_law (F : Fn → FnD) : DSn := sSeq (sSet 1 (dCall (callP 1 (F .f__law_some)) (dCons (dVar 0) (dNil)))) (sSeq (sSet 2 (dCall (callP 1 (F .f__law_built)) (dCons (dVar 1) (dNil)))) (sSeq (sFor (dRange1 (dCons (dC (.int 2)) (dNil))) (gN 3) (L_law_1 F)) (sSeq (sSet 5 (dBin vMod (dCall (callP 3 (F .f__law_mixed)) (dCons (dVar 0) (dCons (dC (.int 1)) (dCons (dC (.int 42)) (dNil))))) (dBin vAdd (dCall fLen (dCons (dVar 2) (dNil))) (dC (.int 1))))) (sSeq (sSet 6 (dCall (callF 1 (F .f_tokens)) (dCons (dSl (dVar 2) (oNone) (oSome (dVar 5))) (dNil)))) (sRet (dAndV (toB (dIsT .lst (dVar 6))) (dCall (callP 2 (F .f__law_same)) (dCons (dCall fTuple (dCons (dBin vAdd (dVar 6) (dCall (callF 1 (F .f_tokens)) (dCons (dSl (dVar 2) (oSome (dVar 5)) (oNone)) (dNil)))) (dNil))) (dCons (dCall fTuple (dCons (dVar 1) (dNil))) (dNil))))))))))
def TT : Nat → Fn → FnD
  | 0, _ => fun _ _ => .bad
  | n + 1, g => match g with
    | .f_tokens => runD 5 (B_tokens (TT n))
    | .f__law_cell_at => runD 2 (B__law_cell_at (TT n))
    | .f__law_mixed => runD 6 (B__law_mixed (TT n))
    | .f__law_word => runD 6 (B__law_word (TT n))
    | .f__law_whole => runD 1 (B__law_whole (TT n))
    | .f__law_leaf => runD 2 (B__law_leaf (TT n))
    | .f__law_shutting => runD 4 (B__law_shutting (TT n))
    | .f__law_tokens => runD 10 (B__law_tokens (TT n))
    | .f__law_built => runD 7 (B__law_built (TT n))
    | .f__law_same => runD 3 (B__law_same (TT n))
    | .f__law_some => runD 8 (B__law_some (TT n))
    | .f_law => runD 7 (B_law (TT n))
theorem TT_tokens (n : Nat) : TT (n + 1) .f_tokens = runD 5 (B_tokens (TT n)) := rfl
theorem TT__law_cell_at (n : Nat) : TT (n + 1) .f__law_cell_at = runD 2 (B__law_cell_at (TT n)) := rfl
theorem TT__law_mixed (n : Nat) : TT (n + 1) .f__law_mixed = runD 6 (B__law_mixed (TT n)) := rfl
theorem TT__law_word (n : Nat) : TT (n + 1) .f__law_word = runD 6 (B__law_word (TT n)) := rfl
theorem TT__law_whole (n : Nat) : TT (n + 1) .f__law_whole = runD 1 (B__law_whole (TT n)) := rfl
theorem TT__law_leaf (n : Nat) : TT (n + 1) .f__law_leaf = runD 2 (B__law_leaf (TT n)) := rfl
theorem TT__law_shutting (n : Nat) : TT (n + 1) .f__law_shutting = runD 4 (B__law_shutting (TT n)) := rfl
theorem TT__law_tokens (n : Nat) : TT (n + 1) .f__law_tokens = runD 10 (B__law_tokens (TT n)) := rfl
theorem TT__law_built (n : Nat) : TT (n + 1) .f__law_built = runD 7 (B__law_built (TT n)) := rfl
theorem TT__law_same (n : Nat) : TT (n + 1) .f__law_same = runD 3 (B__law_same (TT n)) := rfl
theorem TT__law_some (n : Nat) : TT (n + 1) .f__law_some = runD 8 (B__law_some (TT n)) := rfl
theorem TT_law (n : Nat) : TT (n + 1) .f_law = runD 7 (B_law (TT n)) := rfl
/-! ### the facts of the top -/
structure FX (K : PySem.W.Frag) (mg : Str → Option Value) where
  a_tokens : Addr
  d_tokens : FuncData
  F_tokens : Fun K "tokens" "tokens" s_tokens a_tokens d_tokens
  m_tokens : mg "tokens" = some (.ref a_tokens)
  b_tokens : Binds K d_tokens ["row"] []
  a__law_cell_at : Addr
  d__law_cell_at : FuncData
  F__law_cell_at : Fun K "_law_cell_at" "_law_cell_at" s__law_cell_at a__law_cell_at d__law_cell_at
  m__law_cell_at : mg "_law_cell_at" = some (.ref a__law_cell_at)
  b__law_cell_at : Binds K d__law_cell_at ["_law_script", "_law_k"] []
  a__law_mixed : Addr
  d__law_mixed : FuncData
  F__law_mixed : Fun K "_law_mixed" "_law_mixed" s__law_mixed a__law_mixed d__law_mixed
  m__law_mixed : mg "_law_mixed" = some (.ref a__law_mixed)
  b__law_mixed : Binds K d__law_mixed ["_law_script", "_law_k", "_law_salt"] []
  a__law_word : Addr
  d__law_word : FuncData
  F__law_word : Fun K "_law_word" "_law_word" s__law_word a__law_word d__law_word
  m__law_word : mg "_law_word" = some (.ref a__law_word)
  b__law_word : Binds K d__law_word ["_law_number"] []
  a__law_whole : Addr
  d__law_whole : FuncData
  F__law_whole : Fun K "_law_whole" "_law_whole" s__law_whole a__law_whole d__law_whole
  m__law_whole : mg "_law_whole" = some (.ref a__law_whole)
  b__law_whole : Binds K d__law_whole ["_law_found"] []
  a__law_leaf : Addr
  d__law_leaf : FuncData
  F__law_leaf : Fun K "_law_leaf" "_law_leaf" s__law_leaf a__law_leaf d__law_leaf
  m__law_leaf : mg "_law_leaf" = some (.ref a__law_leaf)
  b__law_leaf : Binds K d__law_leaf ["_law_number"] []
  a__law_shutting : Addr
  d__law_shutting : FuncData
  F__law_shutting : Fun K "_law_shutting" "_law_shutting" s__law_shutting a__law_shutting d__law_shutting
  m__law_shutting : mg "_law_shutting" = some (.ref a__law_shutting)
  b__law_shutting : Binds K d__law_shutting ["_law_some_here", "_law_now"] []
  a__law_tokens : Addr
  d__law_tokens : FuncData
  F__law_tokens : Fun K "_law_tokens" "_law_tokens" s__law_tokens a__law_tokens d__law_tokens
  m__law_tokens : mg "_law_tokens" = some (.ref a__law_tokens)
  b__law_tokens : Binds K d__law_tokens ["_law_script", "_law_at", "_law_many", "_law_nest"] []
  a__law_built : Addr
  d__law_built : FuncData
  F__law_built : Fun K "_law_built" "_law_built" s__law_built a__law_built d__law_built
  m__law_built : mg "_law_built" = some (.ref a__law_built)
  b__law_built : Binds K d__law_built ["_law_some_here"] []
  a__law_same : Addr
  d__law_same : FuncData
  F__law_same : Fun K "_law_same" "_law_same" s__law_same a__law_same d__law_same
  m__law_same : mg "_law_same" = some (.ref a__law_same)
  b__law_same : Binds K d__law_same ["_law_found", "_law_due"] []
  a__law_some : Addr
  d__law_some : FuncData
  F__law_some : Fun K "_law_some" "_law_some" s__law_some a__law_some d__law_some
  m__law_some : mg "_law_some" = some (.ref a__law_some)
  b__law_some : Binds K d__law_some ["_law_script"] []
  a_law : Addr
  d_law : FuncData
  F_law : Fun K "law" "law" s_law a_law d_law
  m_law : mg "law" = some (.ref a_law)
  b_law : Binds K d_law ["_law_script"] []
  z_bool : mg "bool" = none
  z_enumerate : mg "enumerate" = none
  z_int : mg "int" = none
  z_isinstance : mg "isinstance" = none
  z_len : mg "len" = none
  z_list : mg "list" = none
  z_max : mg "max" = none
  z_min : mg "min" = none
  z_range : mg "range" = none
  z_str : mg "str" = none
  z_tuple : mg "tuple" = none
def FX.ad {K : PySem.W.Frag} {mg : Str → Option Value} (T : FX K mg) : Fn → Addr
  | .f_tokens => T.a_tokens
  | .f__law_cell_at => T.a__law_cell_at
  | .f__law_mixed => T.a__law_mixed
  | .f__law_word => T.a__law_word
  | .f__law_whole => T.a__law_whole
  | .f__law_leaf => T.a__law_leaf
  | .f__law_shutting => T.a__law_shutting
  | .f__law_tokens => T.a__law_tokens
  | .f__law_built => T.a__law_built
  | .f__law_same => T.a__law_same
  | .f__law_some => T.a__law_some
  | .f_law => T.a_law
def FX.fd {K : PySem.W.Frag} {mg : Str → Option Value} (T : FX K mg) : Fn → FuncData
  | .f_tokens => T.d_tokens
  | .f__law_cell_at => T.d__law_cell_at
  | .f__law_mixed => T.d__law_mixed
  | .f__law_word => T.d__law_word
  | .f__law_whole => T.d__law_whole
  | .f__law_leaf => T.d__law_leaf
  | .f__law_shutting => T.d__law_shutting
  | .f__law_tokens => T.d__law_tokens
  | .f__law_built => T.d__law_built
  | .f__law_same => T.d__law_same
  | .f__law_some => T.d__law_some
  | .f_law => T.d_law
def psOf : Fn → List Str
  | .f_tokens => ["row"]
  | .f__law_cell_at => ["_law_script", "_law_k"]
  | .f__law_mixed => ["_law_script", "_law_k", "_law_salt"]
  | .f__law_word => ["_law_number"]
  | .f__law_whole => ["_law_found"]
  | .f__law_leaf => ["_law_number"]
  | .f__law_shutting => ["_law_some_here", "_law_now"]
  | .f__law_tokens => ["_law_script", "_law_at", "_law_many", "_law_nest"]
  | .f__law_built => ["_law_some_here"]
  | .f__law_same => ["_law_found", "_law_due"]
  | .f__law_some => ["_law_script"]
  | .f_law => ["_law_script"]
section
variable {P : Program} {w : World} {K : PySem.W.Frag} {mg : Str → Option Value} {base : Heap} {ct : CT}
abbrev Calls (P : Program) (w : World) {K : PySem.W.Frag} {mg : Str → Option Value} (base : Heap) (ct : CT) (T : FX K mg) (n : Nat) : Prop := ∀ g : Fn, FnOk P w K mg base (L2.CX P w) (2 * n) (T.ad g) (T.fd g) (psOf g) (spD K ct (psOf g).length (TT n g))
theorem ok_tokens (T : FX K mg) {n : Nat} (C : Calls P w base ct T n) : FnOk P w K mg base (L2.CX P w) (2 * (n + 1)) T.a_tokens T.d_tokens ["row"] (spD K ct 1 (runD 5 (B_tokens (TT n)))) :=
  have sc := sc_tokens
  fn_def T.F_tokens sc fun cdv A outer s H E hr1 hr tk hp hu =>
    ds_cons (ds_set (i := 1) sc.nd rfl (Or.inl rfl) (de_mut (dl_lst (da_nil)))) (ds_cons (ds_for hp rfl (di_seq (de_var (pv 0))) (dg_name (i := 2) sc.nd rfl (Or.inl rfl)) (ds_last (ds_if (dt_eq hu (de_ix (de_var (pv 2)) (de_int)) (de_str)) (ds_last (ds_expr (de_extend (de_var (pv 1)) (da_cons (de_add (de_add (de_imm (dl_lst (da_cons (de_tup (da_cons (de_str) (da_nil))) (da_nil)))) (de_callP (C .f_tokens) hr rfl T.m_tokens T.F_tokens.kp T.b_tokens tk (da_cons (de_ix (de_var (pv 2)) (de_int)) (da_nil)))) (de_imm (dl_lst (da_cons (de_tup (da_cons (de_str) (da_nil))) (da_nil))))) (da_nil))))) (ds_last (ds_if (dt_eq hu (de_ix (de_var (pv 2)) (de_int)) (de_str)) (ds_last (ds_expr (de_extend (de_var (pv 1)) (da_cons (de_add (de_add (de_imm (dl_lst (da_cons (de_tup (da_cons (de_str) (da_cons (de_ix (de_var (pv 2)) (de_int)) (da_nil)))) (da_nil)))) (de_callP (C .f_tokens) hr rfl T.m_tokens T.F_tokens.kp T.b_tokens tk (da_cons (de_ix (de_var (pv 2)) (de_int)) (da_nil)))) (de_imm (dl_lst (da_cons (de_tup (da_cons (de_str) (da_nil))) (da_nil))))) (da_nil))))) (ds_last (ds_if (dt_eq hu (de_ix (de_var (pv 2)) (de_int)) (de_str)) (ds_cons (ds_expr (de_append (de_var (pv 1)) (da_cons (de_tup (da_cons (de_str) (da_nil))) (da_nil)))) (ds_cons (ds_for hp rfl (di_enumT rfl T.z_enumerate (da_cons (de_ix (de_var (pv 2)) (de_int)) (da_nil))) (dg_tup rfl (dgs_name (i := 3) sc.nd rfl (Or.inl rfl) (dgs_name (i := 4) sc.nd rfl (Or.inl rfl) (dgs_nil)))) (ds_cons (ds_if (dt_gt (de_var (pv 3)) (de_int)) (ds_last (ds_expr (de_append (de_var (pv 1)) (da_cons (de_tup (da_cons (de_str) (da_nil))) (da_nil))))) (ds_nil)) (ds_last (ds_expr (de_extend (de_var (pv 1)) (da_cons (de_callP (C .f_tokens) hr rfl T.m_tokens T.F_tokens.kp T.b_tokens tk (da_cons (de_var (pv 4)) (da_nil))) (da_nil))))))) (ds_last (ds_expr (de_append (de_var (pv 1)) (da_cons (de_tup (da_cons (de_str) (da_nil))) (da_nil))))))) (ds_last (ds_expr (de_append (de_var (pv 1)) (da_cons (de_var (pv 2)) (da_nil)))))))))))) (ds_last (ds_ret (de_var (pv 1)))))
theorem ok__law_cell_at (T : FX K mg) {n : Nat} (C : Calls P w base ct T n) : FnOk P w K mg base (L2.CX P w) (2 * (n + 1)) T.a__law_cell_at T.d__law_cell_at ["_law_script", "_law_k"] (spD K ct 2 (runD 2 (B__law_cell_at (TT n)))) :=
  have sc := sc__law_cell_at
  fn_def T.F__law_cell_at sc fun cdv A outer s H E hr1 hr tk hp hu =>
    ds_cons (ds_if (dt_eq hu (de_len rfl T.z_len (da_cons (de_var (pv 0)) (da_nil))) (de_int)) (ds_last (ds_ret (de_int))) (ds_nil)) (ds_last (ds_ret (de_ix (de_var (pv 0)) (de_mod (de_var (pv 1)) (de_len rfl T.z_len (da_cons (de_var (pv 0)) (da_nil)))))))
theorem ok__law_mixed (T : FX K mg) {n : Nat} (C : Calls P w base ct T n) : FnOk P w K mg base (L2.CX P w) (2 * (n + 1)) T.a__law_mixed T.d__law_mixed ["_law_script", "_law_k", "_law_salt"] (spD K ct 3 (runD 6 (B__law_mixed (TT n)))) :=
  have sc := sc__law_mixed
  fn_def T.F__law_mixed sc fun cdv A outer s H E hr1 hr tk hp hu =>
    ds_cons (ds_set (i := 3) sc.nd rfl (Or.inl rfl) (de_callP (C .f__law_cell_at) hr rfl T.m__law_cell_at T.F__law_cell_at.kp T.b__law_cell_at tk (da_cons (de_var (pv 0)) (da_cons (de_var (pv 1)) (da_nil))))) (ds_cons (ds_set (i := 4) sc.nd rfl (Or.inl rfl) (de_div (de_var (pv 1)) (de_max2 rfl rfl T.z_max (da_cons (de_int) (da_cons (de_len rfl T.z_len (da_cons (de_var (pv 0)) (da_nil))) (da_nil)))))) (ds_cons (ds_set (i := 5) sc.nd rfl (Or.inl rfl) (de_add (de_add (de_add (de_and2 (de_var (pv 3)) (de_int)) (de_mul (de_mul (de_int) (de_var (pv 1))) (de_var (pv 1)))) (de_mul (de_mul (de_int) (de_var (pv 2))) (de_var (pv 2)))) (de_int))) (ds_cons (ds_set (i := 5) sc.nd rfl (Or.inl rfl) (de_mod (de_mul (de_var (pv 5)) (de_int)) (de_int))) (ds_cons (ds_set (i := 5) sc.nd rfl (Or.inl rfl) (de_mod (de_mul (de_var (pv 5)) (de_var (pv 5))) (de_int))) (ds_last (ds_ret (de_and2 (de_add (de_shr (de_var (pv 3)) (de_mul (de_int) (de_add (de_var (pv 2)) (de_mul (de_int) (de_var (pv 4)))))) (de_var (pv 5))) (de_int))))))))
theorem ok__law_word (T : FX K mg) {n : Nat} (C : Calls P w base ct T n) : FnOk P w K mg base (L2.CX P w) (2 * (n + 1)) T.a__law_word T.d__law_word ["_law_number"] (spD K ct 1 (runD 6 (B__law_word (TT n)))) :=
  have sc := sc__law_word
  fn_def T.F__law_word sc fun cdv A outer s H E hr1 hr tk hp hu =>
    ds_cons (ds_set (i := 1) sc.nd rfl (Or.inl rfl) (de_str)) (ds_cons (ds_set (i := 1) sc.nd rfl (Or.inl rfl) (de_add (de_var (pv 1)) (de_str))) (ds_cons (ds_set (i := 2) sc.nd rfl (Or.inl rfl) (de_ix (de_imm (dl_lst (da_cons (de_int) (da_cons (de_int) (da_cons (de_int) (da_cons (de_int) (da_cons (de_int) (da_cons (de_int) (da_cons (de_int) (da_cons (de_int) (da_cons (de_int) (da_cons (de_int) (da_cons (de_int) (da_cons (de_int) (da_nil))))))))))))))) (de_mod (de_var (pv 0)) (de_int)))) (ds_cons (ds_set (i := 3) sc.nd rfl (Or.inl rfl) (de_mod (de_div (de_var (pv 0)) (de_int)) (de_int))) (ds_cons (ds_set (i := 4) sc.nd rfl (Or.inl rfl) (de_str)) (ds_cons (ds_for hp rfl (di_range1 rfl T.z_range (da_cons (de_var (pv 2)) (da_nil))) (dg_name (i := 5) sc.nd rfl (Or.inl rfl)) (ds_last (ds_set (i := 4) sc.nd rfl (Or.inl rfl) (de_add (de_var (pv 4)) (de_ix (de_var (pv 1)) (de_mod (de_add (de_div (de_var (pv 0)) (de_int)) (de_mul (de_var (pv 5)) (de_var (pv 3)))) (de_int))))))) (ds_last (ds_ret (de_var (pv 4)))))))))
theorem ok__law_whole (T : FX K mg) {n : Nat} (C : Calls P w base ct T n) : FnOk P w K mg base (L2.CX P w) (2 * (n + 1)) T.a__law_whole T.d__law_whole ["_law_found"] (spD K ct 1 (runD 1 (B__law_whole (TT n)))) :=
  have sc := sc__law_whole
  fn_def T.F__law_whole sc fun cdv A outer s H E hr1 hr tk hp hu =>
    ds_last (ds_ret (de_and (de_isT .int rfl T.z_isinstance rfl T.z_int (by decide +kernel) (de_var (pv 0))) (de_one (de_not (de_isT .bl rfl T.z_isinstance rfl T.z_bool (by decide +kernel) (de_var (pv 0)))))))
theorem ok__law_leaf (T : FX K mg) {n : Nat} (C : Calls P w base ct T n) : FnOk P w K mg base (L2.CX P w) (2 * (n + 1)) T.a__law_leaf T.d__law_leaf ["_law_number"] (spD K ct 1 (runD 2 (B__law_leaf (TT n)))) :=
  have sc := sc__law_leaf
  fn_def T.F__law_leaf sc fun cdv A outer s H E hr1 hr tk hp hu =>
    ds_cons (ds_set (i := 1) sc.nd rfl (Or.inl rfl) (de_div (de_var (pv 0)) (de_int))) (ds_cons (ds_if (dt_lt (de_mod (de_var (pv 0)) (de_int)) (de_int)) (ds_last (ds_ret (de_tup (da_cons (de_str) (da_cons (de_callP (C .f__law_word) hr rfl T.m__law_word T.F__law_word.kp T.b__law_word tk (da_cons (de_var (pv 1)) (da_nil))) (da_nil)))))) (ds_nil)) (ds_cons (ds_if (dt_lt (de_mod (de_var (pv 0)) (de_int)) (de_int)) (ds_last (ds_ret (de_tup (da_cons (de_str) (da_cons (de_ix (de_imm (dl_lst (da_cons (de_str) (da_cons (de_str) (da_cons (de_str) (da_cons (de_str) (da_nil))))))) (de_mod (de_var (pv 1)) (de_int))) (da_nil)))))) (ds_nil)) (ds_cons (ds_if (dt_eq hu (de_mod (de_var (pv 0)) (de_int)) (de_int)) (ds_last (ds_ret (de_tup (da_cons (de_str) (da_nil))))) (ds_nil)) (ds_last (ds_ret (de_tup (da_cons (de_str) (da_cons (de_ix (de_imm (dl_lst (da_cons (de_mod (de_div (de_var (pv 1)) (de_int)) (de_int)) (da_cons (de_mod (de_div (de_var (pv 1)) (de_int)) (de_int)) (da_nil))))) (de_mod (de_var (pv 1)) (de_int))) (da_nil)))))))))
theorem ok__law_shutting (T : FX K mg) {n : Nat} (C : Calls P w base ct T n) : FnOk P w K mg base (L2.CX P w) (2 * (n + 1)) T.a__law_shutting T.d__law_shutting ["_law_some_here", "_law_now"] (spD K ct 2 (runD 4 (B__law_shutting (TT n)))) :=
  have sc := sc__law_shutting
  fn_def T.F__law_shutting sc fun cdv A outer s H E hr1 hr tk hp hu =>
    ds_cons (ds_asg (de_pop (de_var (pv 1))) (dg_unl rfl (dgs_name (i := 2) sc.nd rfl (Or.inl rfl) (dgs_name (i := 3) sc.nd rfl (Or.inl rfl) (dgs_nil))))) (ds_cons (ds_if (dt_bool (dw_and (dt_eq hu (de_var (pv 2)) (de_str)) (dw_and1 (dt_eq hu (de_var (pv 3)) (de_int))))) (ds_last (ds_expr (de_append (de_var (pv 0)) (da_cons (de_tup (da_cons (de_str) (da_nil))) (da_nil))))) (ds_nil)) (ds_last (ds_expr (de_append (de_var (pv 0)) (da_cons (de_tup (da_cons (de_pick hu (dp_cons (de_str) (dp_cons (de_str) (dp_cons (de_str) (dp_nil)))) (de_var (pv 2))) (da_nil))) (da_nil))))))
theorem ok__law_tokens (T : FX K mg) {n : Nat} (C : Calls P w base ct T n) : FnOk P w K mg base (L2.CX P w) (2 * (n + 1)) T.a__law_tokens T.d__law_tokens ["_law_script", "_law_at", "_law_many", "_law_nest"] (spD K ct 4 (runD 10 (B__law_tokens (TT n)))) :=
  have sc := sc__law_tokens
  fn_def T.F__law_tokens sc fun cdv A outer s H E hr1 hr tk hp hu =>
    ds_cons (ds_set (i := 4) sc.nd rfl (Or.inl rfl) (de_mut (dl_lst (da_nil)))) (ds_cons (ds_set (i := 5) sc.nd rfl (Or.inl rfl) (de_mut (dl_lst (da_nil)))) (ds_cons (ds_for hp rfl (di_range2 rfl T.z_range (da_cons (de_var (pv 1)) (da_cons (de_add (de_var (pv 1)) (de_var (pv 2))) (da_nil)))) (dg_name (i := 6) sc.nd rfl (Or.inl rfl)) (ds_cons (ds_set (i := 7) sc.nd rfl (Or.inl rfl) (de_callP (C .f__law_mixed) hr rfl T.m__law_mixed T.F__law_mixed.kp T.b__law_mixed tk (da_cons (de_var (pv 0)) (da_cons (de_var (pv 6)) (da_cons (de_int) (da_nil)))))) (ds_cons (ds_set (i := 8) sc.nd rfl (Or.inl rfl) (de_mod (de_var (pv 7)) (de_int))) (ds_last (ds_if (dt_bool (dw_and (dt_lt (de_var (pv 8)) (de_int)) (dw_and1 (dt_lt (de_len rfl T.z_len (da_cons (de_var (pv 5)) (da_nil))) (de_var (pv 3)))))) (ds_cons (ds_set (i := 9) sc.nd rfl (Or.inl rfl) (de_ix (de_imm (dl_lst (da_cons (de_str) (da_cons (de_str) (da_cons (de_str) (da_cons (de_str) (da_nil))))))) (de_var (pv 8)))) (ds_cons (ds_expr (de_append (de_var (pv 4)) (da_cons (de_ix (de_imm (dl_lst (da_cons (de_tup (da_cons (de_var (pv 9)) (da_nil))) (da_cons (de_tup (da_cons (de_str) (da_cons (de_mod (de_div (de_var (pv 7)) (de_int)) (de_int)) (da_nil)))) (da_nil))))) (de_int1 rfl T.z_int (da_cons (de_eq hu (de_var (pv 9)) (de_str)) (da_nil)))) (da_nil)))) (ds_last (ds_expr (de_append (de_var (pv 5)) (da_cons (de_mut (dl_lst (da_cons (de_var (pv 9)) (da_cons (de_int) (da_nil))))) (da_nil))))))) (ds_last (ds_if (dt_bool (dw_and (dt_eq hu (de_var (pv 8)) (de_int)) (dw_and1 (dt_gt (de_len rfl T.z_len (da_cons (de_var (pv 5)) (da_nil))) (de_int))))) (ds_last (ds_expr (de_call (C .f__law_shutting) hr rfl T.m__law_shutting T.F__law_shutting.kp T.b__law_shutting tk (da_cons (de_var (pv 4)) (da_cons (de_var (pv 5)) (da_nil)))))) (ds_last (ds_if (dt_bool (dw_and (dt_lt (de_var (pv 8)) (de_int)) (dw_and (dt_gt (de_len rfl T.z_len (da_cons (de_var (pv 5)) (da_nil))) (de_int)) (dw_and (dt_eq hu (de_ix (de_ix (de_var (pv 5)) (de_neg (de_int))) (de_int)) (de_str)) (dw_and1 (dt_lt (de_ix (de_ix (de_var (pv 5)) (de_neg (de_int))) (de_int)) (de_int))))))) (ds_cons (ds_put (de_add (de_ix (de_ix (de_var (pv 5)) (de_neg (de_int))) (de_int)) (de_int)) (de_ix (de_var (pv 5)) (de_neg (de_int))) (de_int)) (ds_last (ds_expr (de_append (de_var (pv 4)) (da_cons (de_tup (da_cons (de_str) (da_nil))) (da_nil)))))) (ds_last (ds_expr (de_append (de_var (pv 4)) (da_cons (de_callP (C .f__law_leaf) hr rfl T.m__law_leaf T.F__law_leaf.kp T.b__law_leaf tk (da_cons (de_callP (C .f__law_mixed) hr rfl T.m__law_mixed T.F__law_mixed.kp T.b__law_mixed tk (da_cons (de_var (pv 0)) (da_cons (de_var (pv 6)) (da_cons (de_int) (da_nil))))) (da_nil))) (da_nil)))))))))))))) (ds_cons (ds_while hp (dt_gt (de_len rfl T.z_len (da_cons (de_var (pv 5)) (da_nil))) (de_int)) (ds_last (ds_expr (de_call (C .f__law_shutting) hr rfl T.m__law_shutting T.F__law_shutting.kp T.b__law_shutting tk (da_cons (de_var (pv 4)) (da_cons (de_var (pv 5)) (da_nil))))))) (ds_last (ds_ret (de_var (pv 4)))))))
theorem ok__law_built (T : FX K mg) {n : Nat} (C : Calls P w base ct T n) : FnOk P w K mg base (L2.CX P w) (2 * (n + 1)) T.a__law_built T.d__law_built ["_law_some_here"] (spD K ct 1 (runD 7 (B__law_built (TT n)))) :=
  have sc := sc__law_built
  fn_def T.F__law_built sc fun cdv A outer s H E hr1 hr tk hp hu =>
    ds_cons (ds_set (i := 1) sc.nd rfl (Or.inl rfl) (de_mut (dl_lst (da_cons (de_mut (dl_lst (da_cons (de_tup (da_cons (de_str) (da_nil))) (da_cons (de_mut (dl_lst (da_nil))) (da_cons (de_mut (dl_lst (da_nil))) (da_nil)))))) (da_nil))))) (ds_cons (ds_for hp rfl (di_seq (de_var (pv 0))) (dg_name (i := 2) sc.nd rfl (Or.inl rfl)) (ds_last (ds_if (dt_in (de_ix (de_var (pv 2)) (de_int)) (de_imm (dl_lst (da_cons (de_str) (da_cons (de_str) (da_cons (de_str) (da_nil))))))) (ds_last (ds_expr (de_append (de_var (pv 1)) (da_cons (de_mut (dl_lst (da_cons (de_var (pv 2)) (da_cons (de_mut (dl_lst (da_nil))) (da_cons (de_mut (dl_lst (da_nil))) (da_nil)))))) (da_nil))))) (ds_last (ds_if (dt_eq hu (de_ix (de_var (pv 2)) (de_int)) (de_str)) (ds_cons (ds_expr (de_append (de_ix (de_ix (de_var (pv 1)) (de_neg (de_int))) (de_int)) (da_cons (de_tuple rfl T.z_tuple (da_cons (de_ix (de_ix (de_var (pv 1)) (de_neg (de_int))) (de_int)) (da_nil))) (da_nil)))) (ds_last (ds_put (de_mut (dl_lst (da_nil))) (de_ix (de_var (pv 1)) (de_neg (de_int))) (de_int)))) (ds_last (ds_if (dt_in (de_ix (de_var (pv 2)) (de_int)) (de_imm (dl_lst (da_cons (de_str) (da_cons (de_str) (da_cons (de_str) (da_nil))))))) (ds_cons (ds_asg (de_pop (de_var (pv 1))) (dg_unl rfl (dgs_name (i := 3) sc.nd rfl (Or.inl rfl) (dgs_name (i := 4) sc.nd rfl (Or.inl rfl) (dgs_name (i := 5) sc.nd rfl (Or.inl rfl) (dgs_nil)))))) (ds_cons (ds_set (i := 4) sc.nd rfl (Or.inl rfl) (de_add (de_var (pv 4)) (de_imm (dl_lst (da_cons (de_tuple rfl T.z_tuple (da_cons (de_var (pv 5)) (da_nil))) (da_nil)))))) (ds_cons (ds_set (i := 6) sc.nd rfl (Or.inl rfl) (de_tup (da_cons (de_str) (da_cons (de_tuple rfl T.z_tuple (da_cons (de_var (pv 4)) (da_nil))) (da_nil))))) (ds_cons (ds_if (dt_ne hu (de_ix (de_var (pv 3)) (de_int)) (de_str)) (ds_last (ds_set (i := 6) sc.nd rfl (Or.inl rfl) (de_add (de_add (de_tup (da_cons (de_ix (de_imm (dl_lst (da_cons (de_str) (da_cons (de_str) (da_nil))))) (de_int1 rfl T.z_int (da_cons (de_eq hu (de_ix (de_var (pv 3)) (de_int)) (de_str)) (da_nil)))) (da_nil))) (de_sl (de_var (pv 3)) (do_some (de_int)) (do_none))) (de_tup (da_cons (de_ix (de_var (pv 4)) (de_int)) (da_nil)))))) (ds_nil)) (ds_last (ds_expr (de_append (de_ix (de_ix (de_var (pv 1)) (de_neg (de_int))) (de_int)) (da_cons (de_var (pv 6)) (da_nil))))))))) (ds_last (ds_expr (de_append (de_ix (de_ix (de_var (pv 1)) (de_neg (de_int))) (de_int)) (da_cons (de_var (pv 2)) (da_nil)))))))))))) (ds_last (ds_ret (de_tuple rfl T.z_tuple (da_cons (de_ix (de_ix (de_var (pv 1)) (de_int)) (de_int)) (da_nil))))))
theorem ok__law_same (T : FX K mg) {n : Nat} (C : Calls P w base ct T n) : FnOk P w K mg base (L2.CX P w) (2 * (n + 1)) T.a__law_same T.d__law_same ["_law_found", "_law_due"] (spD K ct 2 (runD 3 (B__law_same (TT n)))) :=
  have sc := sc__law_same
  fn_def T.F__law_same sc fun cdv A outer s H E hr1 hr tk hp hu =>
    ds_cons (ds_if (dt_bool (dw_or (dt_not (dt_val (de_isT .tup rfl T.z_isinstance rfl T.z_tuple (by decide +kernel) (de_var (pv 0))))) (dw_or1 (dt_ne hu (de_len rfl T.z_len (da_cons (de_var (pv 0)) (da_nil))) (de_len rfl T.z_len (da_cons (de_var (pv 1)) (da_nil))))))) (ds_last (ds_ret (de_bl))) (ds_nil)) (ds_cons (ds_for hp rfl (di_range1 rfl T.z_range (da_cons (de_len rfl T.z_len (da_cons (de_var (pv 1)) (da_nil))) (da_nil))) (dg_name (i := 2) sc.nd rfl (Or.inl rfl)) (ds_last (ds_if (dt_val (de_isT .tup rfl T.z_isinstance rfl T.z_tuple (by decide +kernel) (de_ix (de_var (pv 1)) (de_var (pv 2))))) (ds_last (ds_if (dt_not (dt_val (de_callP (C .f__law_same) hr rfl T.m__law_same T.F__law_same.kp T.b__law_same tk (da_cons (de_ix (de_var (pv 0)) (de_var (pv 2))) (da_cons (de_ix (de_var (pv 1)) (de_var (pv 2))) (da_nil)))))) (ds_last (ds_ret (de_bl))) (ds_nil))) (ds_last (ds_if (dt_val (de_isT .str rfl T.z_isinstance rfl T.z_str (by decide +kernel) (de_ix (de_var (pv 1)) (de_var (pv 2))))) (ds_last (ds_if (dt_bool (dw_or (dt_not (dt_val (de_isT .str rfl T.z_isinstance rfl T.z_str (by decide +kernel) (de_ix (de_var (pv 0)) (de_var (pv 2)))))) (dw_or1 (dt_ne hu (de_ix (de_var (pv 0)) (de_var (pv 2))) (de_ix (de_var (pv 1)) (de_var (pv 2))))))) (ds_last (ds_ret (de_bl))) (ds_nil))) (ds_last (ds_if (dt_bool (dw_or (dt_not (dt_val (de_callP (C .f__law_whole) hr rfl T.m__law_whole T.F__law_whole.kp T.b__law_whole tk (da_cons (de_ix (de_var (pv 0)) (de_var (pv 2))) (da_nil))))) (dw_or1 (dt_ne hu (de_ix (de_var (pv 0)) (de_var (pv 2))) (de_ix (de_var (pv 1)) (de_var (pv 2))))))) (ds_last (ds_ret (de_bl))) (ds_nil)))))))) (ds_last (ds_ret (de_bl))))
theorem ok__law_some (T : FX K mg) {n : Nat} (C : Calls P w base ct T n) : FnOk P w K mg base (L2.CX P w) (2 * (n + 1)) T.a__law_some T.d__law_some ["_law_script"] (spD K ct 1 (runD 8 (B__law_some (TT n)))) :=
  have sc := sc__law_some
  fn_def T.F__law_some sc fun cdv A outer s H E hr1 hr tk hp hu =>
    ds_cons (ds_set (i := 1) sc.nd rfl (Or.inl rfl) (de_callP (C .f__law_mixed) hr rfl T.m__law_mixed T.F__law_mixed.kp T.b__law_mixed tk (da_cons (de_var (pv 0)) (da_cons (de_int) (da_cons (de_int) (da_nil)))))) (ds_cons (ds_set (i := 2) sc.nd rfl (Or.inl rfl) (de_min2 rfl rfl T.z_min (da_cons (de_add (de_len rfl T.z_len (da_cons (de_var (pv 0)) (da_nil))) (de_int)) (da_cons (de_int) (da_nil))))) (ds_cons (ds_if (dt_eq hu (de_mod (de_var (pv 1)) (de_int)) (de_int)) (ds_last (ds_ret (de_comp (own := [("_law_k", 3)]) rfl rfl sc.nd (di_range1 rfl T.z_range (da_cons (de_add (de_int) (de_mod (de_div (de_var (pv 1)) (de_int)) (de_int))) (da_nil))) (blkOk_by (N := ["_law_script", "_law_number", "_law_many", "_law_k", "_law_deep", "_law_word_here", "_law_head", "_law_shut"]) (sc := defScope s__law_some) (by decide +kernel)) (fun _ _ _ _ _ => pg_name (i := 3) sc.nd rfl (Or.inl rfl) (Or.inr rfl)) (fun _ _ _ _ _ => pts0) (fun _ _ _ _ _ => de_callP (C .f__law_leaf) hr rfl T.m__law_leaf T.F__law_leaf.kp T.b__law_leaf takes0 (da_cons (de_callP (C .f__law_mixed) hr rfl T.m__law_mixed T.F__law_mixed.kp T.b__law_mixed takes0 (da_cons (de_var (pv 0)) (da_cons (de_var (pv 3)) (da_cons (de_int) (da_nil))))) (da_nil)))))) (ds_nil)) (ds_cons (ds_if (dt_eq hu (de_mod (de_var (pv 1)) (de_int)) (de_int)) (ds_cons (ds_set (i := 4) sc.nd rfl (Or.inl rfl) (de_add (de_int) (de_mod (de_div (de_var (pv 1)) (de_int)) (de_int)))) (ds_cons (ds_set (i := 5) sc.nd rfl (Or.inl rfl) (de_ix (de_imm (dl_lst (da_cons (de_str) (da_cons (de_str) (da_cons (de_str) (da_nil)))))) (de_mod (de_div (de_var (pv 1)) (de_int)) (de_int)))) (ds_cons (ds_set (i := 6) sc.nd rfl (Or.inl rfl) (de_ix (de_imm (dl_lst (da_cons (de_tup (da_cons (de_var (pv 5)) (da_nil))) (da_cons (de_tup (da_cons (de_str) (da_cons (de_int) (da_nil)))) (da_nil))))) (de_int1 rfl T.z_int (da_cons (de_eq hu (de_var (pv 5)) (de_str)) (da_nil))))) (ds_cons (ds_set (i := 7) sc.nd rfl (Or.inl rfl) (de_pick hu (dp_cons (de_imm (dl_lst (da_cons (de_tup (da_cons (de_str) (da_nil))) (da_nil)))) (dp_cons (de_imm (dl_lst (da_cons (de_tup (da_cons (de_str) (da_nil))) (da_nil)))) (dp_cons (de_imm (dl_lst (da_cons (de_tup (da_cons (de_str) (da_nil))) (da_cons (de_tup (da_cons (de_str) (da_nil))) (da_cons (de_tup (da_cons (de_str) (da_nil))) (da_nil)))))) (dp_nil)))) (de_var (pv 5)))) (ds_last (ds_ret (de_add (de_add (de_imm (dl_rep (de_imm (dl_lst (da_cons (de_var (pv 6)) (da_nil)))) (de_var (pv 4)))) (de_callP (C .f__law_tokens) hr rfl T.m__law_tokens T.F__law_tokens.kp T.b__law_tokens tk (da_cons (de_var (pv 0)) (da_cons (de_int) (da_cons (de_var (pv 2)) (da_cons (de_int) (da_nil))))))) (de_imm (dl_rep (de_var (pv 7)) (de_var (pv 4))))))))))) (ds_nil)) (ds_last (ds_ret (de_callP (C .f__law_tokens) hr rfl T.m__law_tokens T.F__law_tokens.kp T.b__law_tokens tk (da_cons (de_var (pv 0)) (da_cons (de_int) (da_cons (de_var (pv 2)) (da_cons (de_int) (da_nil)))))))))))
theorem ok_law (T : FX K mg) {n : Nat} (C : Calls P w base ct T n) : FnOk P w K mg base (L2.CX P w) (2 * (n + 1)) T.a_law T.d_law ["_law_script"] (spD K ct 1 (runD 7 (B_law (TT n)))) :=
  have sc := sc_law
  fn_def T.F_law sc fun cdv A outer s H E hr1 hr tk hp hu =>
    ds_cons (ds_set (i := 1) sc.nd rfl (Or.inl rfl) (de_callP (C .f__law_some) hr rfl T.m__law_some T.F__law_some.kp T.b__law_some tk (da_cons (de_var (pv 0)) (da_nil)))) (ds_cons (ds_set (i := 2) sc.nd rfl (Or.inl rfl) (de_callP (C .f__law_built) hr rfl T.m__law_built T.F__law_built.kp T.b__law_built tk (da_cons (de_var (pv 1)) (da_nil)))) (ds_cons (ds_for hp rfl (di_range1 rfl T.z_range (da_cons (de_int) (da_nil))) (dg_name (i := 3) sc.nd rfl (Or.inl rfl)) (ds_cons (ds_set (i := 4) sc.nd rfl (Or.inl rfl) (de_callF (C .f_tokens) hr rfl T.m_tokens T.F_tokens.kp T.b_tokens tk (da_cons (de_var (pv 2)) (da_nil)))) (ds_cons (ds_if (dt_bool (dw_or (dt_not (dt_val (de_isT .lst rfl T.z_isinstance rfl T.z_list (by decide +kernel) (de_var (pv 4))))) (dw_or1 (dt_not (dt_val (de_callP (C .f__law_same) hr rfl T.m__law_same T.F__law_same.kp T.b__law_same tk (da_cons (de_tuple rfl T.z_tuple (da_cons (de_var (pv 4)) (da_nil))) (da_cons (de_tuple rfl T.z_tuple (da_cons (de_var (pv 1)) (da_nil))) (da_nil))))))))) (ds_last (ds_ret (de_bl))) (ds_nil)) (ds_last (ds_expr (de_clear (de_var (pv 4)))))))) (ds_cons (ds_set (i := 5) sc.nd rfl (Or.inl rfl) (de_mod (de_callP (C .f__law_mixed) hr rfl T.m__law_mixed T.F__law_mixed.kp T.b__law_mixed tk (da_cons (de_var (pv 0)) (da_cons (de_int) (da_cons (de_int) (da_nil))))) (de_add (de_len rfl T.z_len (da_cons (de_var (pv 2)) (da_nil))) (de_int)))) (ds_cons (ds_set (i := 6) sc.nd rfl (Or.inl rfl) (de_callF (C .f_tokens) hr rfl T.m_tokens T.F_tokens.kp T.b_tokens tk (da_cons (de_sl (de_var (pv 2)) (do_none) (do_some (de_var (pv 5)))) (da_nil)))) (ds_last (ds_ret (de_and (de_isT .lst rfl T.z_isinstance rfl T.z_list (by decide +kernel) (de_var (pv 6))) (de_one (de_callP (C .f__law_same) hr rfl T.m__law_same T.F__law_same.kp T.b__law_same tk (da_cons (de_tuple rfl T.z_tuple (da_cons (de_add (de_var (pv 6)) (de_callF (C .f_tokens) hr rfl T.m_tokens T.F_tokens.kp T.b_tokens tk (da_cons (de_sl (de_var (pv 2)) (do_some (de_var (pv 5))) (do_none)) (da_nil)))) (da_nil))) (da_cons (de_tuple rfl T.z_tuple (da_cons (de_var (pv 1)) (da_nil))) (da_nil))))))))))))
theorem all (T : FX K mg) : ∀ n, Calls P w base ct T n
  | 0 => fun g => fn_bad rfl
  | n + 1 => fun g => match g with
    | .f_tokens => ok_tokens T (all T n)
    | .f__law_cell_at => ok__law_cell_at T (all T n)
    | .f__law_mixed => ok__law_mixed T (all T n)
    | .f__law_word => ok__law_word T (all T n)
    | .f__law_whole => ok__law_whole T (all T n)
    | .f__law_leaf => ok__law_leaf T (all T n)
    | .f__law_shutting => ok__law_shutting T (all T n)
    | .f__law_tokens => ok__law_tokens T (all T n)
    | .f__law_built => ok__law_built T (all T n)
    | .f__law_same => ok__law_same T (all T n)
    | .f__law_some => ok__law_some T (all T n)
    | .f_law => ok_law T (all T n)
end
theorem all_mk {l : PySem.W.OpenLaw} {w : World} {K : PySem.W.Frag} {h : Heap} {mg : Str → Option Value} {fa : Addr} (X : K.In h) (G : h.Ns mainGlobals mg) (hfa : mg "law" = some (.ref fa))
    {f0 : Addr} {od0 an0 : Option Addr} {sl0 : Array (Option Value)} {oc0 kV0 dc0 pm0 cd0 ct0 : Value}
    (a0 : PySem.W.nsIn K mainGlobals "tokens" = some (some (.ref f0))) (l0 : K.lookup f0 = some ⟨oc0, od0, .func (PySem.W.fnOf "tokens" "tokens" (defArgs s_tokens) (defBody s_tokens) (defScope s_tokens) .none kV0 dc0 pm0 an0 cd0 ct0), sl0⟩) (c0 : PySem.W.codeIn K cd0 "tokens" = true) (k0 : PySem.W.keepIn K (.ref f0) = true)
    {f1 : Addr} {od1 an1 : Option Addr} {sl1 : Array (Option Value)} {oc1 kV1 dc1 pm1 cd1 ct1 : Value}
    (a1 : PySem.W.nsIn K mainGlobals "_law_cell_at" = some (some (.ref f1))) (l1 : K.lookup f1 = some ⟨oc1, od1, .func (PySem.W.fnOf "_law_cell_at" "_law_cell_at" (defArgs s__law_cell_at) (defBody s__law_cell_at) (defScope s__law_cell_at) .none kV1 dc1 pm1 an1 cd1 ct1), sl1⟩) (c1 : PySem.W.codeIn K cd1 "_law_cell_at" = true) (k1 : PySem.W.keepIn K (.ref f1) = true)
    {f2 : Addr} {od2 an2 : Option Addr} {sl2 : Array (Option Value)} {oc2 kV2 dc2 pm2 cd2 ct2 : Value}
    (a2 : PySem.W.nsIn K mainGlobals "_law_mixed" = some (some (.ref f2))) (l2 : K.lookup f2 = some ⟨oc2, od2, .func (PySem.W.fnOf "_law_mixed" "_law_mixed" (defArgs s__law_mixed) (defBody s__law_mixed) (defScope s__law_mixed) .none kV2 dc2 pm2 an2 cd2 ct2), sl2⟩) (c2 : PySem.W.codeIn K cd2 "_law_mixed" = true) (k2 : PySem.W.keepIn K (.ref f2) = true)
    {f3 : Addr} {od3 an3 : Option Addr} {sl3 : Array (Option Value)} {oc3 kV3 dc3 pm3 cd3 ct3 : Value}
    (a3 : PySem.W.nsIn K mainGlobals "_law_word" = some (some (.ref f3))) (l3 : K.lookup f3 = some ⟨oc3, od3, .func (PySem.W.fnOf "_law_word" "_law_word" (defArgs s__law_word) (defBody s__law_word) (defScope s__law_word) .none kV3 dc3 pm3 an3 cd3 ct3), sl3⟩) (c3 : PySem.W.codeIn K cd3 "_law_word" = true) (k3 : PySem.W.keepIn K (.ref f3) = true)
    {f4 : Addr} {od4 an4 : Option Addr} {sl4 : Array (Option Value)} {oc4 kV4 dc4 pm4 cd4 ct4 : Value}
    (a4 : PySem.W.nsIn K mainGlobals "_law_whole" = some (some (.ref f4))) (l4 : K.lookup f4 = some ⟨oc4, od4, .func (PySem.W.fnOf "_law_whole" "_law_whole" (defArgs s__law_whole) (defBody s__law_whole) (defScope s__law_whole) .none kV4 dc4 pm4 an4 cd4 ct4), sl4⟩) (c4 : PySem.W.codeIn K cd4 "_law_whole" = true) (k4 : PySem.W.keepIn K (.ref f4) = true)
    {f5 : Addr} {od5 an5 : Option Addr} {sl5 : Array (Option Value)} {oc5 kV5 dc5 pm5 cd5 ct5 : Value}
    (a5 : PySem.W.nsIn K mainGlobals "_law_leaf" = some (some (.ref f5))) (l5 : K.lookup f5 = some ⟨oc5, od5, .func (PySem.W.fnOf "_law_leaf" "_law_leaf" (defArgs s__law_leaf) (defBody s__law_leaf) (defScope s__law_leaf) .none kV5 dc5 pm5 an5 cd5 ct5), sl5⟩) (c5 : PySem.W.codeIn K cd5 "_law_leaf" = true) (k5 : PySem.W.keepIn K (.ref f5) = true)
    {f6 : Addr} {od6 an6 : Option Addr} {sl6 : Array (Option Value)} {oc6 kV6 dc6 pm6 cd6 ct6 : Value}
    (a6 : PySem.W.nsIn K mainGlobals "_law_shutting" = some (some (.ref f6))) (l6 : K.lookup f6 = some ⟨oc6, od6, .func (PySem.W.fnOf "_law_shutting" "_law_shutting" (defArgs s__law_shutting) (defBody s__law_shutting) (defScope s__law_shutting) .none kV6 dc6 pm6 an6 cd6 ct6), sl6⟩) (c6 : PySem.W.codeIn K cd6 "_law_shutting" = true) (k6 : PySem.W.keepIn K (.ref f6) = true)
    {f7 : Addr} {od7 an7 : Option Addr} {sl7 : Array (Option Value)} {oc7 kV7 dc7 pm7 cd7 ct7 : Value}
    (a7 : PySem.W.nsIn K mainGlobals "_law_tokens" = some (some (.ref f7))) (l7 : K.lookup f7 = some ⟨oc7, od7, .func (PySem.W.fnOf "_law_tokens" "_law_tokens" (defArgs s__law_tokens) (defBody s__law_tokens) (defScope s__law_tokens) .none kV7 dc7 pm7 an7 cd7 ct7), sl7⟩) (c7 : PySem.W.codeIn K cd7 "_law_tokens" = true) (k7 : PySem.W.keepIn K (.ref f7) = true)
    {f8 : Addr} {od8 an8 : Option Addr} {sl8 : Array (Option Value)} {oc8 kV8 dc8 pm8 cd8 ct8 : Value}
    (a8 : PySem.W.nsIn K mainGlobals "_law_built" = some (some (.ref f8))) (l8 : K.lookup f8 = some ⟨oc8, od8, .func (PySem.W.fnOf "_law_built" "_law_built" (defArgs s__law_built) (defBody s__law_built) (defScope s__law_built) .none kV8 dc8 pm8 an8 cd8 ct8), sl8⟩) (c8 : PySem.W.codeIn K cd8 "_law_built" = true) (k8 : PySem.W.keepIn K (.ref f8) = true)
    {f9 : Addr} {od9 an9 : Option Addr} {sl9 : Array (Option Value)} {oc9 kV9 dc9 pm9 cd9 ct9 : Value}
    (a9 : PySem.W.nsIn K mainGlobals "_law_same" = some (some (.ref f9))) (l9 : K.lookup f9 = some ⟨oc9, od9, .func (PySem.W.fnOf "_law_same" "_law_same" (defArgs s__law_same) (defBody s__law_same) (defScope s__law_same) .none kV9 dc9 pm9 an9 cd9 ct9), sl9⟩) (c9 : PySem.W.codeIn K cd9 "_law_same" = true) (k9 : PySem.W.keepIn K (.ref f9) = true)
    {f10 : Addr} {od10 an10 : Option Addr} {sl10 : Array (Option Value)} {oc10 kV10 dc10 pm10 cd10 ct10 : Value}
    (a10 : PySem.W.nsIn K mainGlobals "_law_some" = some (some (.ref f10))) (l10 : K.lookup f10 = some ⟨oc10, od10, .func (PySem.W.fnOf "_law_some" "_law_some" (defArgs s__law_some) (defBody s__law_some) (defScope s__law_some) .none kV10 dc10 pm10 an10 cd10 ct10), sl10⟩) (c10 : PySem.W.codeIn K cd10 "_law_some" = true) (k10 : PySem.W.keepIn K (.ref f10) = true)
    {f11 : Addr} {od11 an11 : Option Addr} {sl11 : Array (Option Value)} {oc11 kV11 dc11 pm11 cd11 ct11 : Value}
    (a11 : PySem.W.nsIn K mainGlobals "law" = some (some (.ref f11))) (l11 : K.lookup f11 = some ⟨oc11, od11, .func (PySem.W.fnOf "law" "law" (defArgs s_law) (defBody s_law) (defScope s_law) .none kV11 dc11 pm11 an11 cd11 ct11), sl11⟩) (c11 : PySem.W.codeIn K cd11 "law" = true) (k11 : PySem.W.keepIn K (.ref f11) = true)
    (z_bool : PySem.W.nsIn K mainGlobals "bool" = some none)
    (z_enumerate : PySem.W.nsIn K mainGlobals "enumerate" = some none)
    (z_int : PySem.W.nsIn K mainGlobals "int" = some none)
    (z_isinstance : PySem.W.nsIn K mainGlobals "isinstance" = some none)
    (z_len : PySem.W.nsIn K mainGlobals "len" = some none)
    (z_list : PySem.W.nsIn K mainGlobals "list" = some none)
    (z_max : PySem.W.nsIn K mainGlobals "max" = some none)
    (z_min : PySem.W.nsIn K mainGlobals "min" = some none)
    (z_range : PySem.W.nsIn K mainGlobals "range" = some none)
    (z_str : PySem.W.nsIn K mainGlobals "str" = some none)
    (z_tuple : PySem.W.nsIn K mainGlobals "tuple" = some none)
    : ∃ (ct : CT) (fd : FuncData), (∀ (s : Shared) (v : Value), BindsTo s fd ⟨[v], []⟩ [("_law_script", v)]) ∧ ∀ base : Heap, K.In base → base.Ns mainGlobals mg → FnOk l.prog w K mg base (L2.CX l.prog w) (2 * 20) fa fd ["_law_script"] (spD K ct 1 (TT 20 .f_law)) := by
  have e := hfa.symm.trans (PySem.W.mg_of X G a11)
  cases e
  have F0 := fun_mk (st := s_tokens) l0 c0 k0
  have b0 := F0.binds (ps := ["row"]) fun _ _ _ _ _ _ us hl => match us, hl with | [_], _ => rfl
  have F1 := fun_mk (st := s__law_cell_at) l1 c1 k1
  have b1 := F1.binds (ps := ["_law_script", "_law_k"]) fun _ _ _ _ _ _ us hl => match us, hl with | [_, _], _ => rfl
  have F2 := fun_mk (st := s__law_mixed) l2 c2 k2
  have b2 := F2.binds (ps := ["_law_script", "_law_k", "_law_salt"]) fun _ _ _ _ _ _ us hl => match us, hl with | [_, _, _], _ => rfl
  have F3 := fun_mk (st := s__law_word) l3 c3 k3
  have b3 := F3.binds (ps := ["_law_number"]) fun _ _ _ _ _ _ us hl => match us, hl with | [_], _ => rfl
  have F4 := fun_mk (st := s__law_whole) l4 c4 k4
  have b4 := F4.binds (ps := ["_law_found"]) fun _ _ _ _ _ _ us hl => match us, hl with | [_], _ => rfl
  have F5 := fun_mk (st := s__law_leaf) l5 c5 k5
  have b5 := F5.binds (ps := ["_law_number"]) fun _ _ _ _ _ _ us hl => match us, hl with | [_], _ => rfl
  have F6 := fun_mk (st := s__law_shutting) l6 c6 k6
  have b6 := F6.binds (ps := ["_law_some_here", "_law_now"]) fun _ _ _ _ _ _ us hl => match us, hl with | [_, _], _ => rfl
  have F7 := fun_mk (st := s__law_tokens) l7 c7 k7
  have b7 := F7.binds (ps := ["_law_script", "_law_at", "_law_many", "_law_nest"]) fun _ _ _ _ _ _ us hl => match us, hl with | [_, _, _, _], _ => rfl
  have F8 := fun_mk (st := s__law_built) l8 c8 k8
  have b8 := F8.binds (ps := ["_law_some_here"]) fun _ _ _ _ _ _ us hl => match us, hl with | [_], _ => rfl
  have F9 := fun_mk (st := s__law_same) l9 c9 k9
  have b9 := F9.binds (ps := ["_law_found", "_law_due"]) fun _ _ _ _ _ _ us hl => match us, hl with | [_, _], _ => rfl
  have F10 := fun_mk (st := s__law_some) l10 c10 k10
  have b10 := F10.binds (ps := ["_law_script"]) fun _ _ _ _ _ _ us hl => match us, hl with | [_], _ => rfl
  have F11 := fun_mk (st := s_law) l11 c11 k11
  have b11 := F11.binds (ps := ["_law_script"]) fun _ _ _ _ _ _ us hl => match us, hl with | [_], _ => rfl
  let T : FX K mg := ⟨_, _, F0, PySem.W.mg_of X G a0, b0, _, _, F1, PySem.W.mg_of X G a1, b1, _, _, F2, PySem.W.mg_of X G a2, b2, _, _, F3, PySem.W.mg_of X G a3, b3, _, _, F4, PySem.W.mg_of X G a4, b4, _, _, F5, PySem.W.mg_of X G a5, b5, _, _, F6, PySem.W.mg_of X G a6, b6, _, _, F7, PySem.W.mg_of X G a7, b7, _, _, F8, PySem.W.mg_of X G a8, b8, _, _, F9, PySem.W.mg_of X G a9, b9, _, _, F10, PySem.W.mg_of X G a10, b10, _, _, F11, PySem.W.mg_of X G a11, b11, PySem.W.mg_none_of X G z_bool, PySem.W.mg_none_of X G z_enumerate, PySem.W.mg_none_of X G z_int, PySem.W.mg_none_of X G z_isinstance, PySem.W.mg_none_of X G z_len, PySem.W.mg_none_of X G z_list, PySem.W.mg_none_of X G z_max, PySem.W.mg_none_of X G z_min, PySem.W.mg_none_of X G z_range, PySem.W.mg_none_of X G z_str, PySem.W.mg_none_of X G z_tuple⟩
  refine ⟨fun _ => none, PySem.W.fnOf "law" "law" (defArgs s_law) (defBody s_law) (defScope s_law) .none kV11 dc11 pm11 an11 cd11 ct11, fun s v => .of_eq rfl, fun base _ _ => ?_⟩
  exact all (P := l.prog) (w := w) (base := base) (ct := fun _ => none) T 20 .f_law
end K07

namespace K07
open PySem PySem.Spec L2 LP
abbrev scr (ns : List Int) : W := .fro (ns.map .int)
theorem cellC (ns : List Int) (s : W) (hs : IsScr ns s) (k : Int) (n : Nat) : ∃ c : Int, ∀ M, callP 2 (TT (n + 1) .f__law_cell_at) [s, .int k] M = .ok (.int c) M := by
  suffices h : ∃ c : Int, TT (n + 1) .f__law_cell_at [s, .int k] [] = .ok (.int c) [] by
    obtain ⟨c, h⟩ := h
    exact ⟨c, fun M => callP_ok rfl (by simp [lfs, lf, hs.lf]) h rfl⟩
  rw [TT__law_cell_at]
  by_cases h0 : ns.length = 0
  · have e : ((0 : Int) == 0) = true := rfl
    have e2 : fLen [s] [] = .ok (.int 0) [] := by rw [hs.len, h0]; rfl
    refine ⟨0, ?_⟩
    simp only [B__law_cell_at, bind_ok', bind_bad', bind_exc', to_ok, to_bad, to_exc, seq_nx, seq_rt, seq_bk, seq_ct, seq_bad, seq_exc, fin_nx, fin_rt, fin_exc, run_eq, sSeq_eq, sNext_eq, sIf_eq, sSet_eq, sAug_eq, sRet_eq, sRetN_eq, sExpr_eq, sFor_eq, loop_nil, gN_eq, var_0, var_s, dC_eq, dBin_eq, dNot_eq, dAnd_eq, dOr_eq, dAndV_eq, dOrV_eq, dNotV_eq, dIf_eq, asBool_bl, toB_eq, dNil_eq, dCons_eq, dCall_eq, dTup_eq, dLst_eq, dImm_eq, dMut_eq, dStill_eq, dRange1_eq, dRange2_eq, add_ii, iadd_ii, sub_ii, and_ii, dNeg_eq, neg_i, cmp_ii, cmp_ss, eq_ii, eq_ss, eq_bb, len_t, len_l, len_f, max2_ii, min2_ii, int_b, dIsT_eq, isT_b, isT_i, isT_s, isT_n, isT_t, isT_l, dSl_eq, oNone_eq, oSome_eq, optI_i, sl_t, sl_l, sl_f, dM1_eq, dM1L_eq, m1k_s, f2_ss, dComp_eq, nox_ok, dYes_eq, dMl_eq, mlk_0, mlk2_0, mlk_1, mlk2_1, pop_ok, clear_ok, isT_loc0, isT_f, len_loc0, seqW_l, seqW_t, seqW_f, seqW_sg, is_nn, is_tn, when_true, nc0, nc1, nc2, nc3, nc4, nc5, nc6, nc7, nc8, ofStr_beq, dPick_eq, ofStr_eq, ixt0, ixt1, ixt2, ixt3, ixl0, ixl1, ixl2, ixl3, dEnumT_eq, enumK_t, pair_tt, dFld_eq, sFld_eq, sFldA_eq, dMeth_eq, List.map_cons, List.map_nil, List.length_cons, List.length_nil, List.replicate_succ, List.replicate_zero, List.cons_append, List.nil_append, List.set_cons_zero, List.set_cons_succ, Nat.reduceSub, Nat.reduceAdd, Nat.zero_add, if_true, Bool.false_eq_true, if_false, decide_true, decide_false, Bool.not_true, Bool.not_false, id, reduceIte, start_eq, List.length_map, Nat.reduceLeDiff, Int.reduceBEq, Bool.or_true, Bool.true_or, Bool.or_false, Bool.false_or, Bool.and_true, Bool.true_and, Bool.and_false, Bool.false_and, line_eq, reduceCtorEq, String.reduceEq, e2, e]
  · have hl : 0 < (ns.length : Int) := by omega
    have h1 : 0 ≤ k % (ns.length : Int) := Int.emod_nonneg _ (by omega)
    have h2 : k % (ns.length : Int) < (ns.length : Int) := Int.emod_lt_of_pos _ hl
    have h3 : ((ns.length : Int) == 0) = false := beq_eq_false_iff_ne.mpr (by omega)
    have h4 : (k % (ns.length : Int)).toNat < ns.length := (Int.toNat_lt h1).mpr h2
    have hi := hs.ix _ h4 []
    have e : (((k % (ns.length : Int)).toNat : Nat) : Int) = k % (ns.length : Int) := Int.toNat_of_nonneg h1
    rw [e] at hi
    refine ⟨ns[(k % (ns.length : Int)).toNat], ?_⟩
    simp only [B__law_cell_at, bind_ok', bind_bad', bind_exc', to_ok, to_bad, to_exc, seq_nx, seq_rt, seq_bk, seq_ct, seq_bad, seq_exc, fin_nx, fin_rt, fin_exc, run_eq, sSeq_eq, sNext_eq, sIf_eq, sSet_eq, sAug_eq, sRet_eq, sRetN_eq, sExpr_eq, sFor_eq, loop_nil, gN_eq, var_0, var_s, dC_eq, dBin_eq, dNot_eq, dAnd_eq, dOr_eq, dAndV_eq, dOrV_eq, dNotV_eq, dIf_eq, asBool_bl, toB_eq, dNil_eq, dCons_eq, dCall_eq, dTup_eq, dLst_eq, dImm_eq, dMut_eq, dStill_eq, dRange1_eq, dRange2_eq, add_ii, iadd_ii, sub_ii, and_ii, dNeg_eq, neg_i, cmp_ii, cmp_ss, eq_ii, eq_ss, eq_bb, len_t, len_l, len_f, max2_ii, min2_ii, int_b, dIsT_eq, isT_b, isT_i, isT_s, isT_n, isT_t, isT_l, dSl_eq, oNone_eq, oSome_eq, optI_i, sl_t, sl_l, sl_f, dM1_eq, dM1L_eq, m1k_s, f2_ss, dComp_eq, nox_ok, dYes_eq, dMl_eq, mlk_0, mlk2_0, mlk_1, mlk2_1, pop_ok, clear_ok, isT_loc0, isT_f, len_loc0, seqW_l, seqW_t, seqW_f, seqW_sg, is_nn, is_tn, when_true, nc0, nc1, nc2, nc3, nc4, nc5, nc6, nc7, nc8, ofStr_beq, dPick_eq, ofStr_eq, ixt0, ixt1, ixt2, ixt3, ixl0, ixl1, ixl2, ixl3, dEnumT_eq, enumK_t, pair_tt, dFld_eq, sFld_eq, sFldA_eq, dMeth_eq, List.map_cons, List.map_nil, List.length_cons, List.length_nil, List.replicate_succ, List.replicate_zero, List.cons_append, List.nil_append, List.set_cons_zero, List.set_cons_succ, Nat.reduceSub, Nat.reduceAdd, Nat.zero_add, if_true, Bool.false_eq_true, if_false, decide_true, decide_false, Bool.not_true, Bool.not_false, id, reduceIte, start_eq, List.length_map, Nat.reduceLeDiff, Int.reduceBEq, Bool.or_true, Bool.true_or, Bool.or_false, Bool.false_or, Bool.and_true, Bool.true_and, Bool.and_false, Bool.false_and, line_eq, reduceCtorEq, String.reduceEq, hs.len, h3, mod_ok hl, hi]
theorem mixedC (ns : List Int) (s : W) (hs : IsScr ns s) (k salt : Int) (n : Nat) (hl : ns.length ≤ 1000000) (hk : 0 ≤ k) (hk2 : k ≤ 1000000) (hs0 : 0 ≤ salt) (hs2 : salt ≤ 1000000) : ∃ m : Int, (∀ M, callP 3 (TT (n + 2) .f__law_mixed) [s, .int k, .int salt] M = .ok (.int m) M) ∧ 0 ≤ m ∧ m < 2147483648 := by
  suffices h : ∃ m : Int, TT (n + 2) .f__law_mixed [s, .int k, .int salt] [] = .ok (.int m) [] ∧ 0 ≤ m ∧ m < 2147483648 by
    obtain ⟨c, h, h2⟩ := h
    exact ⟨c, fun M => callP_ok rfl (by simp [lfs, lf, hs.lf]) h rfl, h2⟩
  obtain ⟨c, hcall⟩ := cellC ns s hs k n
  have hlen := hs.len
  have hmax : 0 < (if (ns.length : Int) > 1 then (ns.length : Int) else 1) ∧ (if (ns.length : Int) > 1 then (ns.length : Int) else 1) < 1073741824 := by split <;> omega
  have hlap : 0 ≤ k / (if (ns.length : Int) > 1 then (ns.length : Int) else 1) := Int.ediv_nonneg hk (by omega)
  generalize hL : (if (ns.length : Int) > 1 then (ns.length : Int) else 1) = L at hmax hlap
  simp only [gt_iff_lt] at hL
  generalize hq : k / L = lap at hlap
  rw [TT__law_mixed]
  simp (disch := omega) [B__law_mixed, start_eq, hcall, hL, div_ok, hq, mul_l, mul_r, mod_ok, shr_ok, hlen]
  exact and_mask _

/-! ### words of signs -/
def okC (c : Nat) : Prop := 33 ≤ c ∧ c ≤ 126
def wsigs : Str := Str.ofString "abcdefghijklmnopqrstuvwxyzABCDEFGHIJKLMNOPQRSTUVWXYZ0123456789" ++ Str.ofString "!\"#$&'()*+,-./:;<=>?\x40[\\]^_`{|}~"
theorem wsigs_add (M : Mem) : vAdd (.str (Str.ofString "abcdefghijklmnopqrstuvwxyzABCDEFGHIJKLMNOPQRSTUVWXYZ0123456789")) (.str (Str.ofString "!\"#$&'()*+,-./:;<=>?\x40[\\]^_`{|}~")) M = .ok (.str wsigs) M := by
  have hs1 : (Str.ofString "abcdefghijklmnopqrstuvwxyzABCDEFGHIJKLMNOPQRSTUVWXYZ0123456789").length + (Str.ofString "!\"#$&'()*+,-./:;<=>?\x40[\\]^_`{|}~").length ≤ 16777216 := by decide +kernel
  rw [add_ss hs1]
  rfl
theorem wsigs_len : wsigs.length ≤ 16777216 := by decide +kernel
def wallSigns : List Nat := TL.tl wsigs
theorem wallSigns_ok : wallSigns.length = 93 ∧ wallSigns.all (fun c => decide (33 ≤ c ∧ c ≤ 126)) = true := by decide +kernel
theorem wsig_ix (i : Int) (a : 0 ≤ i) (b : i < 93) : ∃ c, okC c ∧ ∀ M, vIx (.str wsigs) (.int i) M = .ok (.str (sg [c])) M := by
  have hl : i < (wallSigns.length : Int) := by rw [wallSigns_ok.1]; exact b
  have h1 := atI_in a hl
  have h2 := of_decide_eq_true (List.all_eq_true.mp wallSigns_ok.2 (wallSigns[i.toNat]'(by omega)) (List.getElem_mem _))
  unfold wallSigns at h1
  exact ⟨_, h2, fun M => ix_s h1 wsigs_len⟩
theorem wsigs_ex : ∃ z : Str, (∀ M, vAdd (.str (Str.ofString "abcdefghijklmnopqrstuvwxyzABCDEFGHIJKLMNOPQRSTUVWXYZ0123456789")) (.str (Str.ofString "!\"#$&'()*+,-./:;<=>?\x40[\\]^_`{|}~")) M = .ok (.str z) M) ∧ ∀ i : Int, 0 ≤ i → i < 93 → ∃ c, okC c ∧ ∀ M, vIx (.str z) (.int i) M = .ok (.str (sg [c])) M := ⟨wsigs, wsigs_add, wsig_ix⟩
theorem wsig_step (m st i : Int) (M : Mem) (l : List Nat) (c : Nat) (z0 : Str) (sz : W) (n : Nat) (h0 : 0 ≤ st) (h1 : st < 93) (hx : ∀ M, vIx (.str z0) (.int ((m / 12 + i * st) % 93)) M = .ok (.str (sg [c])) M) (ha : l.length + [c].length ≤ 16777216) :
    L__law_word_1 (TT n) [some (.int m), some (.str z0), some sz, some (.int st), some (.str (sg l)), some (.int i)] M = .nx [some (.int m), some (.str z0), some sz, some (.int st), some (.str (sg (l ++ [c]))), some (.int i)] M := by
  have q1 : (0 : Int) < 93 := by decide
  have q2 : (0 : Int) < 12 := by decide
  have q3 : (12 : Int) < 1073741824 := by decide
  have q6 : (-18446744073709551616 : Int) < st := by omega
  have q7 : st < 18446744073709551616 := by omega
  simp only [L__law_word_1, bind_ok', bind_bad', bind_exc', to_ok, to_bad, to_exc, seq_nx, seq_rt, seq_bk, seq_ct, seq_bad, seq_exc, fin_nx, fin_rt, fin_exc, run_eq, sSeq_eq, sNext_eq, sIf_eq, sSet_eq, sAug_eq, sRet_eq, sRetN_eq, sExpr_eq, sFor_eq, loop_nil, gN_eq, var_0, var_s, dC_eq, dBin_eq, dNot_eq, dAnd_eq, dOr_eq, dAndV_eq, dOrV_eq, dNotV_eq, dIf_eq, asBool_bl, toB_eq, dNil_eq, dCons_eq, dCall_eq, dTup_eq, dLst_eq, dImm_eq, dMut_eq, dStill_eq, dRange1_eq, dRange2_eq, add_ii, iadd_ii, sub_ii, and_ii, dNeg_eq, neg_i, cmp_ii, cmp_ss, eq_ii, eq_ss, eq_bb, len_t, len_l, len_f, max2_ii, min2_ii, int_b, dIsT_eq, isT_b, isT_i, isT_s, isT_n, isT_t, isT_l, dSl_eq, oNone_eq, oSome_eq, optI_i, sl_t, sl_l, sl_f, dM1_eq, dM1L_eq, m1k_s, f2_ss, dComp_eq, nox_ok, dYes_eq, dMl_eq, mlk_0, mlk2_0, mlk_1, mlk2_1, pop_ok, clear_ok, isT_loc0, isT_f, len_loc0, seqW_l, seqW_t, seqW_f, seqW_sg, is_nn, is_tn, when_true, nc0, nc1, nc2, nc3, nc4, nc5, nc6, nc7, nc8, ofStr_beq, dPick_eq, ofStr_eq, ixt0, ixt1, ixt2, ixt3, ixl0, ixl1, ixl2, ixl3, dEnumT_eq, enumK_t, pair_tt, dFld_eq, sFld_eq, sFldA_eq, dMeth_eq, List.map_cons, List.map_nil, List.length_cons, List.length_nil, List.replicate_succ, List.replicate_zero, List.cons_append, List.nil_append, List.set_cons_zero, List.set_cons_succ, Nat.reduceSub, Nat.reduceAdd, Nat.zero_add, if_true, Bool.false_eq_true, if_false, decide_true, decide_false, Bool.not_true, Bool.not_false, id, reduceIte, start_eq, List.length_map, Nat.reduceLeDiff, Int.reduceBEq, Bool.or_true, Bool.true_or, Bool.or_false, Bool.false_or, Bool.and_true, Bool.true_and, Bool.and_false, Bool.false_and, line_eq, reduceCtorEq, String.reduceEq, hx, mod_ok q1, div_ok q2 q3, mul_r q6 q7, add_sg ha]
theorem wsz (m : Int) : ∃ k : Int, 1 ≤ k ∧ k ≤ 12 ∧ ∀ M, vIx (.lst [.int 1, .int 2, .int 3, .int 4, .int 5, .int 6, .int 7, .int 8, .int 10, .int 11, .int 9, .int 12]) (.int (m % 12)) M = .ok (.int k) M := by
  have h0 : 0 ≤ m % 12 := by omega
  have h1 : m % 12 < (([.int 1, .int 2, .int 3, .int 4, .int 5, .int 6, .int 7, .int 8, .int 10, .int 11, .int 9, .int 12] : List W).length : Int) := by simp only [List.length_cons, List.length_nil]; omega
  have hk := pick_mem h0 h1
  have hp := fun M => ix_lp (M := M) h0 h1
  simp only [List.mem_cons, List.not_mem_nil, or_false] at hk
  rcases hk with h | h | h | h | h | h | h | h | h | h | h | h <;> (refine ⟨_, ?_, ?_, fun M => by rw [hp M, h]⟩ <;> decide)
theorem wordC (m : Int) (n : Nat) : ∃ l : List Nat, okW l = true ∧ ∀ M, callP 1 (TT (n + 1) .f__law_word) [.int m] M = .ok (.str (sg l)) M := by
  obtain ⟨z0, hadd, hix⟩ := wsigs_ex
  have hE : (Str.ofString "") = sg [] := by decide +kernel
  obtain ⟨sz, k0, k1, hsz⟩ := wsz m
  obtain ⟨ρ', M', hl, hM, l, p, e1, e2, e3⟩ := loop_inv (g := gN 5) (s := L__law_word_1 (TT n)) (fun i ρ M' => M' = [] ∧ ∃ (l : List Nat) (p : Option W), l.length = i ∧ (∀ c ∈ l, okC c) ∧ ρ = [some (.int m), some (.str z0), some (.int sz), some (.int (m / 9000 % 93)), some (.str (sg l)), p])
    (rangeW 0 sz.toNat) 0 _ [] ⟨rfl, [], none, rfl, (fun _ h => nomatch h), rfl⟩ (by
      rintro i w ρ M' hw ⟨rfl, l, p, e1, e2, rfl⟩
      obtain ⟨hi, rfl⟩ := rangeW_get hw
      obtain ⟨c, hc, hx⟩ := hix ((m / 12 + (0 + (i : Int)) * (m / 9000 % 93)) % 93) (Int.emod_nonneg _ (by decide)) (Int.emod_lt_of_pos _ (by decide))
      refine ⟨_, [some (.int m), some (.str z0), some (.int sz), some (.int (m / 9000 % 93)), some (.str (sg (l ++ [c]))), some (.int (0 + i))], [], rfl, .inl ?_, rfl, l ++ [c], _, by rw [List.length_append, e1]; rfl, fun d hd => ?_, rfl⟩
      · exact wsig_step m _ _ _ l c z0 _ n (by omega) (by omega) hx (by simp only [List.length_cons, List.length_nil]; omega)
      · rcases List.mem_append.mp hd with hd | hd
        · exact e2 d hd
        · rw [List.mem_singleton.mp hd]; exact hc)
  subst hM e3
  have hlen : l.length = sz.toNat := by
    rw [e1]
    simp only [rangeW, List.length_map, List.length_range]
    omega
  refine ⟨l, ?_, fun M => callP_ok rfl rfl (M' := []) ?_ rfl⟩
  · unfold okW
    rw [Bool.and_eq_true, List.all_eq_true]
    exact ⟨decide_eq_true (by omega), fun c hc => decide_eq_true (e2 c hc)⟩
  · have o12 : (0 : Int) < 12 := by decide
    have o93 : (0 : Int) < 93 := by decide
    have o9 : (0 : Int) < 9000 := by decide
    have p9 : (9000 : Int) < 1073741824 := by decide
    have s12 : (12 : Nat) ≤ 16777216 := by decide
    rw [TT__law_word]
    simp only [B__law_word, bind_ok', bind_bad', bind_exc', to_ok, to_bad, to_exc, seq_nx, seq_rt, seq_bk, seq_ct, seq_bad, seq_exc, fin_nx, fin_rt, fin_exc, run_eq, sSeq_eq, sNext_eq, sIf_eq, sSet_eq, sAug_eq, sRet_eq, sRetN_eq, sExpr_eq, sFor_eq, loop_nil, gN_eq, var_0, var_s, dC_eq, dBin_eq, dNot_eq, dAnd_eq, dOr_eq, dAndV_eq, dOrV_eq, dNotV_eq, dIf_eq, asBool_bl, toB_eq, dNil_eq, dCons_eq, dCall_eq, dTup_eq, dLst_eq, dImm_eq, dMut_eq, dStill_eq, dRange1_eq, dRange2_eq, add_ii, iadd_ii, sub_ii, and_ii, dNeg_eq, neg_i, cmp_ii, cmp_ss, eq_ii, eq_ss, eq_bb, len_t, len_l, len_f, max2_ii, min2_ii, int_b, dIsT_eq, isT_b, isT_i, isT_s, isT_n, isT_t, isT_l, dSl_eq, oNone_eq, oSome_eq, optI_i, sl_t, sl_l, sl_f, dM1_eq, dM1L_eq, m1k_s, f2_ss, dComp_eq, nox_ok, dYes_eq, dMl_eq, mlk_0, mlk2_0, mlk_1, mlk2_1, pop_ok, clear_ok, isT_loc0, isT_f, len_loc0, seqW_l, seqW_t, seqW_f, seqW_sg, is_nn, is_tn, when_true, nc0, nc1, nc2, nc3, nc4, nc5, nc6, nc7, nc8, ofStr_beq, dPick_eq, ofStr_eq, ixt0, ixt1, ixt2, ixt3, ixl0, ixl1, ixl2, ixl3, dEnumT_eq, enumK_t, pair_tt, dFld_eq, sFld_eq, sFldA_eq, dMeth_eq, List.map_cons, List.map_nil, List.length_cons, List.length_nil, List.replicate_succ, List.replicate_zero, List.cons_append, List.nil_append, List.set_cons_zero, List.set_cons_succ, Nat.reduceSub, Nat.reduceAdd, Nat.zero_add, if_true, Bool.false_eq_true, if_false, decide_true, decide_false, Bool.not_true, Bool.not_false, id, reduceIte, start_eq, List.length_map, Nat.reduceLeDiff, Int.reduceBEq, Bool.or_true, Bool.true_or, Bool.or_false, Bool.false_or, Bool.and_true, Bool.true_and, Bool.and_false, Bool.false_and, line_eq, reduceCtorEq, String.reduceEq, hadd, hE, s12, hsz, mod_ok o12, mod_ok o93, div_ok o9 p9, rng1_ok (show (-4611686018427387904 : Int) ≤ sz by omega) (show sz < 4611686018427387904 by omega), hl]
theorem gapV (m : Int) : ∃ g : List Nat, okG g = true ∧ ∀ M, vIx (.lst [.str (Str.ofString " "), .str (Str.ofString " "), .str (Str.ofString " "), .str (Str.ofString "")]) (.int (m % 4)) M = .ok (.str (sg g)) M := by
  have h0 : 0 ≤ m % 4 := by omega
  have h1 : m % 4 < (([.str (Str.ofString " "), .str (Str.ofString " "), .str (Str.ofString " "), .str (Str.ofString "")] : List W).length : Int) := by simp only [List.length_cons, List.length_nil]; omega
  have hk := pick_mem h0 h1
  have hp := fun M => ix_lp (M := M) h0 h1
  have e1 : (Str.ofString " ") = sg [32] := by decide +kernel
  have e2 : (Str.ofString "") = sg [] := by decide +kernel
  simp only [List.mem_cons, List.not_mem_nil, or_false] at hk
  rcases hk with h | h | h | h
  · exact ⟨[32], rfl, fun M => by rw [hp M, h, e1]⟩
  · exact ⟨[32], rfl, fun M => by rw [hp M, h, e1]⟩
  · exact ⟨[32], rfl, fun M => by rw [hp M, h, e1]⟩
  · exact ⟨[], rfl, fun M => by rw [hp M, h, e2]⟩
theorem stopV (a b m : Int) (ha : 0 ≤ a ∧ a ≤ 40) (hb : 0 ≤ b ∧ b ≤ 40) : ∃ k : Int, (0 ≤ k ∧ k ≤ 40) ∧ ∀ M, vIx (.lst [.int a, .int b]) (.int (m % 2)) M = .ok (.int k) M := by
  have h0 : 0 ≤ m % 2 := by omega
  have h1 : m % 2 < (([.int a, .int b] : List W).length : Int) := by simp only [List.length_cons, List.length_nil]; omega
  have hk := pick_mem h0 h1
  have hp := fun M => ix_lp (M := M) h0 h1
  simp only [List.mem_cons, List.not_mem_nil, or_false] at hk
  rcases hk with h | h
  · exact ⟨a, ha, fun M => by rw [hp M, h]⟩
  · exact ⟨b, hb, fun M => by rw [hp M, h]⟩
theorem leafC (m : Int) (n : Nat) (m0 : 0 ≤ m) : ∃ t : Tk, isLeaf t = true ∧ okT t = true ∧ ∀ M, callP 1 (TT (n + 2) .f__law_leaf) [.int m] M = .ok (tW t) M := by
  obtain ⟨l, hl, hw⟩ := wordC (m / 16) n
  obtain ⟨g, hg, hv⟩ := gapV (m / 16)
  obtain ⟨k, hk, hs⟩ := stopV (m / 16 / 2 % 10) (m / 16 / 2 % 41) (m / 16) (by omega) (by omega)
  have o16 : (0 : Int) < 16 := by decide
  have p16 : (16 : Int) < 1073741824 := by decide
  have o2 : (0 : Int) < 2 := by decide
  have p2 : (2 : Int) < 1073741824 := by decide
  have o4 : (0 : Int) < 4 := by decide
  have o10 : (0 : Int) < 10 := by decide
  have o41 : (0 : Int) < 41 := by decide
  have s1 : (1 : Nat) ≤ 16777216 := by decide
  have s2 : (2 : Nat) ≤ 16777216 := by decide
  have s4 : (4 : Nat) ≤ 16777216 := by decide
  by_cases h8 : m % 16 < 8
  · refine ⟨.word l, rfl, hl, fun M => callP_ok rfl rfl (M' := []) ?_ rfl⟩
    rw [TT__law_leaf]
    simp only [B__law_leaf, bind_ok', bind_bad', bind_exc', to_ok, to_bad, to_exc, seq_nx, seq_rt, seq_bk, seq_ct, seq_bad, seq_exc, fin_nx, fin_rt, fin_exc, run_eq, sSeq_eq, sNext_eq, sIf_eq, sSet_eq, sAug_eq, sRet_eq, sRetN_eq, sExpr_eq, sFor_eq, loop_nil, gN_eq, var_0, var_s, dC_eq, dBin_eq, dNot_eq, dAnd_eq, dOr_eq, dAndV_eq, dOrV_eq, dNotV_eq, dIf_eq, asBool_bl, toB_eq, dNil_eq, dCons_eq, dCall_eq, dTup_eq, dLst_eq, dImm_eq, dMut_eq, dStill_eq, dRange1_eq, dRange2_eq, add_ii, iadd_ii, sub_ii, and_ii, dNeg_eq, neg_i, cmp_ii, cmp_ss, eq_ii, eq_ss, eq_bb, len_t, len_l, len_f, max2_ii, min2_ii, int_b, dIsT_eq, isT_b, isT_i, isT_s, isT_n, isT_t, isT_l, dSl_eq, oNone_eq, oSome_eq, optI_i, sl_t, sl_l, sl_f, dM1_eq, dM1L_eq, m1k_s, f2_ss, dComp_eq, nox_ok, dYes_eq, dMl_eq, mlk_0, mlk2_0, mlk_1, mlk2_1, pop_ok, clear_ok, isT_loc0, isT_f, len_loc0, seqW_l, seqW_t, seqW_f, seqW_sg, is_nn, is_tn, when_true, nc0, nc1, nc2, nc3, nc4, nc5, nc6, nc7, nc8, ofStr_beq, dPick_eq, ofStr_eq, ixt0, ixt1, ixt2, ixt3, ixl0, ixl1, ixl2, ixl3, dEnumT_eq, enumK_t, pair_tt, dFld_eq, sFld_eq, sFldA_eq, dMeth_eq, List.map_cons, List.map_nil, List.length_cons, List.length_nil, List.replicate_succ, List.replicate_zero, List.cons_append, List.nil_append, List.set_cons_zero, List.set_cons_succ, Nat.reduceSub, Nat.reduceAdd, Nat.zero_add, if_true, Bool.false_eq_true, if_false, decide_true, decide_false, Bool.not_true, Bool.not_false, id, reduceIte, start_eq, List.length_map, Nat.reduceLeDiff, Int.reduceBEq, Bool.or_true, Bool.true_or, Bool.or_false, Bool.false_or, Bool.and_true, Bool.true_and, Bool.and_false, Bool.false_and, line_eq, reduceCtorEq, String.reduceEq, mod_ok o16, div_ok o16 p16, h8, hw, s2, tW]
  · by_cases h13 : m % 16 < 13
    · refine ⟨.gap g, rfl, hg, fun M => callP_ok rfl rfl (M' := []) ?_ rfl⟩
      rw [TT__law_leaf]
      simp only [B__law_leaf, bind_ok', bind_bad', bind_exc', to_ok, to_bad, to_exc, seq_nx, seq_rt, seq_bk, seq_ct, seq_bad, seq_exc, fin_nx, fin_rt, fin_exc, run_eq, sSeq_eq, sNext_eq, sIf_eq, sSet_eq, sAug_eq, sRet_eq, sRetN_eq, sExpr_eq, sFor_eq, loop_nil, gN_eq, var_0, var_s, dC_eq, dBin_eq, dNot_eq, dAnd_eq, dOr_eq, dAndV_eq, dOrV_eq, dNotV_eq, dIf_eq, asBool_bl, toB_eq, dNil_eq, dCons_eq, dCall_eq, dTup_eq, dLst_eq, dImm_eq, dMut_eq, dStill_eq, dRange1_eq, dRange2_eq, add_ii, iadd_ii, sub_ii, and_ii, dNeg_eq, neg_i, cmp_ii, cmp_ss, eq_ii, eq_ss, eq_bb, len_t, len_l, len_f, max2_ii, min2_ii, int_b, dIsT_eq, isT_b, isT_i, isT_s, isT_n, isT_t, isT_l, dSl_eq, oNone_eq, oSome_eq, optI_i, sl_t, sl_l, sl_f, dM1_eq, dM1L_eq, m1k_s, f2_ss, dComp_eq, nox_ok, dYes_eq, dMl_eq, mlk_0, mlk2_0, mlk_1, mlk2_1, pop_ok, clear_ok, isT_loc0, isT_f, len_loc0, seqW_l, seqW_t, seqW_f, seqW_sg, is_nn, is_tn, when_true, nc0, nc1, nc2, nc3, nc4, nc5, nc6, nc7, nc8, ofStr_beq, dPick_eq, ofStr_eq, ixt0, ixt1, ixt2, ixt3, ixl0, ixl1, ixl2, ixl3, dEnumT_eq, enumK_t, pair_tt, dFld_eq, sFld_eq, sFldA_eq, dMeth_eq, List.map_cons, List.map_nil, List.length_cons, List.length_nil, List.replicate_succ, List.replicate_zero, List.cons_append, List.nil_append, List.set_cons_zero, List.set_cons_succ, Nat.reduceSub, Nat.reduceAdd, Nat.zero_add, if_true, Bool.false_eq_true, if_false, decide_true, decide_false, Bool.not_true, Bool.not_false, id, reduceIte, start_eq, List.length_map, Nat.reduceLeDiff, Int.reduceBEq, Bool.or_true, Bool.true_or, Bool.or_false, Bool.false_or, Bool.and_true, Bool.true_and, Bool.and_false, Bool.false_and, line_eq, reduceCtorEq, String.reduceEq, mod_ok o16, mod_ok o4, div_ok o16 p16, h8, h13, hv, s2, s4, tW]
    · by_cases h : m % 16 = 13
      · have e : (m % 16 == 13) = true := by rw [h]; rfl
        refine ⟨.fin, rfl, rfl, fun M => callP_ok rfl rfl (M' := []) ?_ rfl⟩
        rw [TT__law_leaf]
        simp only [B__law_leaf, bind_ok', bind_bad', bind_exc', to_ok, to_bad, to_exc, seq_nx, seq_rt, seq_bk, seq_ct, seq_bad, seq_exc, fin_nx, fin_rt, fin_exc, run_eq, sSeq_eq, sNext_eq, sIf_eq, sSet_eq, sAug_eq, sRet_eq, sRetN_eq, sExpr_eq, sFor_eq, loop_nil, gN_eq, var_0, var_s, dC_eq, dBin_eq, dNot_eq, dAnd_eq, dOr_eq, dAndV_eq, dOrV_eq, dNotV_eq, dIf_eq, asBool_bl, toB_eq, dNil_eq, dCons_eq, dCall_eq, dTup_eq, dLst_eq, dImm_eq, dMut_eq, dStill_eq, dRange1_eq, dRange2_eq, add_ii, iadd_ii, sub_ii, and_ii, dNeg_eq, neg_i, cmp_ii, cmp_ss, eq_ii, eq_ss, eq_bb, len_t, len_l, len_f, max2_ii, min2_ii, int_b, dIsT_eq, isT_b, isT_i, isT_s, isT_n, isT_t, isT_l, dSl_eq, oNone_eq, oSome_eq, optI_i, sl_t, sl_l, sl_f, dM1_eq, dM1L_eq, m1k_s, f2_ss, dComp_eq, nox_ok, dYes_eq, dMl_eq, mlk_0, mlk2_0, mlk_1, mlk2_1, pop_ok, clear_ok, isT_loc0, isT_f, len_loc0, seqW_l, seqW_t, seqW_f, seqW_sg, is_nn, is_tn, when_true, nc0, nc1, nc2, nc3, nc4, nc5, nc6, nc7, nc8, ofStr_beq, dPick_eq, ofStr_eq, ixt0, ixt1, ixt2, ixt3, ixl0, ixl1, ixl2, ixl3, dEnumT_eq, enumK_t, pair_tt, dFld_eq, sFld_eq, sFldA_eq, dMeth_eq, List.map_cons, List.map_nil, List.length_cons, List.length_nil, List.replicate_succ, List.replicate_zero, List.cons_append, List.nil_append, List.set_cons_zero, List.set_cons_succ, Nat.reduceSub, Nat.reduceAdd, Nat.zero_add, if_true, Bool.false_eq_true, if_false, decide_true, decide_false, Bool.not_true, Bool.not_false, id, reduceIte, start_eq, List.length_map, Nat.reduceLeDiff, Int.reduceBEq, Bool.or_true, Bool.true_or, Bool.or_false, Bool.false_or, Bool.and_true, Bool.true_and, Bool.and_false, Bool.false_and, line_eq, reduceCtorEq, String.reduceEq, mod_ok o16, div_ok o16 p16, h8, h13, e, s1, tW]
      · have e : (m % 16 == 13) = false := beq_eq_false_iff_ne.mpr h
        refine ⟨.stop k, rfl, decide_eq_true hk, fun M => callP_ok rfl rfl (M' := []) ?_ rfl⟩
        rw [TT__law_leaf]
        simp only [B__law_leaf, bind_ok', bind_bad', bind_exc', to_ok, to_bad, to_exc, seq_nx, seq_rt, seq_bk, seq_ct, seq_bad, seq_exc, fin_nx, fin_rt, fin_exc, run_eq, sSeq_eq, sNext_eq, sIf_eq, sSet_eq, sAug_eq, sRet_eq, sRetN_eq, sExpr_eq, sFor_eq, loop_nil, gN_eq, var_0, var_s, dC_eq, dBin_eq, dNot_eq, dAnd_eq, dOr_eq, dAndV_eq, dOrV_eq, dNotV_eq, dIf_eq, asBool_bl, toB_eq, dNil_eq, dCons_eq, dCall_eq, dTup_eq, dLst_eq, dImm_eq, dMut_eq, dStill_eq, dRange1_eq, dRange2_eq, add_ii, iadd_ii, sub_ii, and_ii, dNeg_eq, neg_i, cmp_ii, cmp_ss, eq_ii, eq_ss, eq_bb, len_t, len_l, len_f, max2_ii, min2_ii, int_b, dIsT_eq, isT_b, isT_i, isT_s, isT_n, isT_t, isT_l, dSl_eq, oNone_eq, oSome_eq, optI_i, sl_t, sl_l, sl_f, dM1_eq, dM1L_eq, m1k_s, f2_ss, dComp_eq, nox_ok, dYes_eq, dMl_eq, mlk_0, mlk2_0, mlk_1, mlk2_1, pop_ok, clear_ok, isT_loc0, isT_f, len_loc0, seqW_l, seqW_t, seqW_f, seqW_sg, is_nn, is_tn, when_true, nc0, nc1, nc2, nc3, nc4, nc5, nc6, nc7, nc8, ofStr_beq, dPick_eq, ofStr_eq, ixt0, ixt1, ixt2, ixt3, ixl0, ixl1, ixl2, ixl3, dEnumT_eq, enumK_t, pair_tt, dFld_eq, sFld_eq, sFldA_eq, dMeth_eq, List.map_cons, List.map_nil, List.length_cons, List.length_nil, List.replicate_succ, List.replicate_zero, List.cons_append, List.nil_append, List.set_cons_zero, List.set_cons_succ, Nat.reduceSub, Nat.reduceAdd, Nat.zero_add, if_true, Bool.false_eq_true, if_false, decide_true, decide_false, Bool.not_true, Bool.not_false, id, reduceIte, start_eq, List.length_map, Nat.reduceLeDiff, Int.reduceBEq, Bool.or_true, Bool.true_or, Bool.or_false, Bool.false_or, Bool.and_true, Bool.true_and, Bool.and_false, Bool.false_and, line_eq, reduceCtorEq, String.reduceEq, mod_ok o16, mod_ok o10, mod_ok o41, mod_ok o2, div_ok o16 p16, div_ok o2 p2, h8, h13, e, hs, s2, tW]

/-! ### the tokens that the law draws -/
def FrOk (rest : Mem) : List Nat → List Fr → Prop
  | [], [] => True
  | k :: ns, f :: fs => (∀ j ∈ ns, j < k) ∧ rest[k]? = some (.lst [.str (kindS f.head), .int ((f.full.length : Nat) + 1)]) ∧ isOpen f.head = true ∧ (f.full = [] ∨ f.head = .eit) ∧ f.full.length ≤ 3 ∧ FrOk rest ns fs
  | _, _ => False
theorem FrOk.mono {rest rest' : Mem} : ∀ {ns : List Nat} {fs : List Fr}, (∀ k ∈ ns, rest'[k]? = rest[k]?) → FrOk rest ns fs → FrOk rest' ns fs
  | [], [], _, _ => trivial
  | k :: ns, f :: fs, h, ⟨a, b, c, d, e, g⟩ => ⟨a, (h k (List.mem_cons_self ..)).trans b, c, d, e, FrOk.mono (fun j hj => h j (List.mem_cons_of_mem _ hj)) g⟩
  | [], _ :: _, _, h => h
  | _ :: _, [], _, h => h
theorem FrOk.lt {rest : Mem} : ∀ {ns : List Nat} {fs : List Fr}, FrOk rest ns fs → ∀ k ∈ ns, k < rest.length
  | k :: ns, f :: fs, ⟨a, b, _, _, _, g⟩, j, hj => by
    rcases List.mem_cons.mp hj with e | e
    · subst e; exact (List.getElem?_eq_some_iff.mp b).1
    · exact FrOk.lt g j e
  | [], _, _, _, hj => nomatch hj
theorem FrOk.len {rest : Mem} : ∀ {ns : List Nat} {fs : List Fr}, FrOk rest ns fs → ns.length = fs.length
  | [], [], _ => rfl
  | k :: ns, f :: fs, ⟨_, _, _, _, _, g⟩ => by
    show ns.length + 1 = fs.length + 1
    rw [FrOk.len g]
  | [], _ :: _, h => h.elim
  | _ :: _, [], h => h.elim
abbrev nW (ns : List Nat) : List W := (ns.map fun k => W.loc (k + 2)).reverse
theorem nW_cons (k : Nat) (ns : List Nat) : nW (k :: ns) = nW ns ++ [.loc (k + 2)] := by simp [nW]
theorem nW_len (ns : List Nat) : (nW ns).length = ns.length := by simp [nW]
abbrev MM (ts : List Tk) (ns : List Nat) (rest : Mem) : Mem := .lst (tsW ts) :: .lst (nW ns) :: rest
abbrev RR (s : W) (a b c k m way : Int) (w9 : Option W) : Rho := [some s, some (.int a), some (.int b), some (.int c), some (.loc 0), some (.loc 1), some (.int k), some (.int m), some (.int way), w9]
theorem len_MM1 (ts : List Tk) (ns : List Nat) (rest : Mem) : fLen [.loc 1] (MM ts ns rest) = .ok (.int ns.length) (MM ts ns rest) := by
  rw [len_cell (n := 1) (ws := nW ns) rfl, nW_len]
theorem t7_ok (F : Fn → FnD) (s : W) (a b c k m way : Int) (w9 : Option W) (ts : List Tk) (ns : List Nat) (rest : Mem) : L__law_tokens_7 F (RR s a b c k m way w9) (MM ts ns rest) = .ok (decide (way < 4) && decide ((ns.length : Int) < c)) (MM ts ns rest) := by
  by_cases h : way < 4
  · simp only [L__law_tokens_7, bind_ok', bind_bad', bind_exc', to_ok, to_bad, to_exc, seq_nx, seq_rt, seq_bk, seq_ct, seq_bad, seq_exc, fin_nx, fin_rt, fin_exc, run_eq, sSeq_eq, sNext_eq, sIf_eq, sSet_eq, sAug_eq, sRet_eq, sRetN_eq, sExpr_eq, sFor_eq, loop_nil, gN_eq, var_0, var_s, dC_eq, dBin_eq, dNot_eq, dAnd_eq, dOr_eq, dAndV_eq, dOrV_eq, dNotV_eq, dIf_eq, asBool_bl, toB_eq, dNil_eq, dCons_eq, dCall_eq, dTup_eq, dLst_eq, dImm_eq, dMut_eq, dStill_eq, dRange1_eq, dRange2_eq, add_ii, iadd_ii, sub_ii, and_ii, dNeg_eq, neg_i, cmp_ii, cmp_ss, eq_ii, eq_ss, eq_bb, len_t, len_l, len_f, max2_ii, min2_ii, int_b, dIsT_eq, isT_b, isT_i, isT_s, isT_n, isT_t, isT_l, dSl_eq, oNone_eq, oSome_eq, optI_i, sl_t, sl_l, sl_f, dM1_eq, dM1L_eq, m1k_s, f2_ss, dComp_eq, nox_ok, dYes_eq, dMl_eq, mlk_0, mlk2_0, mlk_1, mlk2_1, pop_ok, clear_ok, isT_loc0, isT_f, len_loc0, seqW_l, seqW_t, seqW_f, seqW_sg, is_nn, is_tn, when_true, nc0, nc1, nc2, nc3, nc4, nc5, nc6, nc7, nc8, ofStr_beq, dPick_eq, ofStr_eq, ixt0, ixt1, ixt2, ixt3, ixl0, ixl1, ixl2, ixl3, dEnumT_eq, enumK_t, pair_tt, dFld_eq, sFld_eq, sFldA_eq, dMeth_eq, List.map_cons, List.map_nil, List.length_cons, List.length_nil, List.replicate_succ, List.replicate_zero, List.cons_append, List.nil_append, List.set_cons_zero, List.set_cons_succ, Nat.reduceSub, Nat.reduceAdd, Nat.zero_add, if_true, Bool.false_eq_true, if_false, decide_true, decide_false, Bool.not_true, Bool.not_false, id, reduceIte, start_eq, List.length_map, Nat.reduceLeDiff, Int.reduceBEq, Bool.or_true, Bool.true_or, Bool.or_false, Bool.false_or, Bool.and_true, Bool.true_and, Bool.and_false, Bool.false_and, line_eq, reduceCtorEq, String.reduceEq, h, len_MM1]
  · simp only [L__law_tokens_7, bind_ok', bind_bad', bind_exc', to_ok, to_bad, to_exc, seq_nx, seq_rt, seq_bk, seq_ct, seq_bad, seq_exc, fin_nx, fin_rt, fin_exc, run_eq, sSeq_eq, sNext_eq, sIf_eq, sSet_eq, sAug_eq, sRet_eq, sRetN_eq, sExpr_eq, sFor_eq, loop_nil, gN_eq, var_0, var_s, dC_eq, dBin_eq, dNot_eq, dAnd_eq, dOr_eq, dAndV_eq, dOrV_eq, dNotV_eq, dIf_eq, asBool_bl, toB_eq, dNil_eq, dCons_eq, dCall_eq, dTup_eq, dLst_eq, dImm_eq, dMut_eq, dStill_eq, dRange1_eq, dRange2_eq, add_ii, iadd_ii, sub_ii, and_ii, dNeg_eq, neg_i, cmp_ii, cmp_ss, eq_ii, eq_ss, eq_bb, len_t, len_l, len_f, max2_ii, min2_ii, int_b, dIsT_eq, isT_b, isT_i, isT_s, isT_n, isT_t, isT_l, dSl_eq, oNone_eq, oSome_eq, optI_i, sl_t, sl_l, sl_f, dM1_eq, dM1L_eq, m1k_s, f2_ss, dComp_eq, nox_ok, dYes_eq, dMl_eq, mlk_0, mlk2_0, mlk_1, mlk2_1, pop_ok, clear_ok, isT_loc0, isT_f, len_loc0, seqW_l, seqW_t, seqW_f, seqW_sg, is_nn, is_tn, when_true, nc0, nc1, nc2, nc3, nc4, nc5, nc6, nc7, nc8, ofStr_beq, dPick_eq, ofStr_eq, ixt0, ixt1, ixt2, ixt3, ixl0, ixl1, ixl2, ixl3, dEnumT_eq, enumK_t, pair_tt, dFld_eq, sFld_eq, sFldA_eq, dMeth_eq, List.map_cons, List.map_nil, List.length_cons, List.length_nil, List.replicate_succ, List.replicate_zero, List.cons_append, List.nil_append, List.set_cons_zero, List.set_cons_succ, Nat.reduceSub, Nat.reduceAdd, Nat.zero_add, if_true, Bool.false_eq_true, if_false, decide_true, decide_false, Bool.not_true, Bool.not_false, id, reduceIte, start_eq, List.length_map, Nat.reduceLeDiff, Int.reduceBEq, Bool.or_true, Bool.true_or, Bool.or_false, Bool.false_or, Bool.and_true, Bool.true_and, Bool.and_false, Bool.false_and, line_eq, reduceCtorEq, String.reduceEq, h]
theorem t4_ok (F : Fn → FnD) (s : W) (a b c k m way : Int) (w9 : Option W) (ts : List Tk) (ns : List Nat) (rest : Mem) : L__law_tokens_4 F (RR s a b c k m way w9) (MM ts ns rest) = .ok (decide (way = 4) && decide ((0 : Int) < ns.length)) (MM ts ns rest) := by
  have e : (way == 4) = decide (way = 4) := rfl
  by_cases h : way = 4
  · simp only [L__law_tokens_4, bind_ok', bind_bad', bind_exc', to_ok, to_bad, to_exc, seq_nx, seq_rt, seq_bk, seq_ct, seq_bad, seq_exc, fin_nx, fin_rt, fin_exc, run_eq, sSeq_eq, sNext_eq, sIf_eq, sSet_eq, sAug_eq, sRet_eq, sRetN_eq, sExpr_eq, sFor_eq, loop_nil, gN_eq, var_0, var_s, dC_eq, dBin_eq, dNot_eq, dAnd_eq, dOr_eq, dAndV_eq, dOrV_eq, dNotV_eq, dIf_eq, asBool_bl, toB_eq, dNil_eq, dCons_eq, dCall_eq, dTup_eq, dLst_eq, dImm_eq, dMut_eq, dStill_eq, dRange1_eq, dRange2_eq, add_ii, iadd_ii, sub_ii, and_ii, dNeg_eq, neg_i, cmp_ii, cmp_ss, eq_ii, eq_ss, eq_bb, len_t, len_l, len_f, max2_ii, min2_ii, int_b, dIsT_eq, isT_b, isT_i, isT_s, isT_n, isT_t, isT_l, dSl_eq, oNone_eq, oSome_eq, optI_i, sl_t, sl_l, sl_f, dM1_eq, dM1L_eq, m1k_s, f2_ss, dComp_eq, nox_ok, dYes_eq, dMl_eq, mlk_0, mlk2_0, mlk_1, mlk2_1, pop_ok, clear_ok, isT_loc0, isT_f, len_loc0, seqW_l, seqW_t, seqW_f, seqW_sg, is_nn, is_tn, when_true, nc0, nc1, nc2, nc3, nc4, nc5, nc6, nc7, nc8, ofStr_beq, dPick_eq, ofStr_eq, ixt0, ixt1, ixt2, ixt3, ixl0, ixl1, ixl2, ixl3, dEnumT_eq, enumK_t, pair_tt, dFld_eq, sFld_eq, sFldA_eq, dMeth_eq, List.map_cons, List.map_nil, List.length_cons, List.length_nil, List.replicate_succ, List.replicate_zero, List.cons_append, List.nil_append, List.set_cons_zero, List.set_cons_succ, Nat.reduceSub, Nat.reduceAdd, Nat.zero_add, if_true, Bool.false_eq_true, if_false, decide_true, decide_false, Bool.not_true, Bool.not_false, id, reduceIte, start_eq, List.length_map, Nat.reduceLeDiff, Int.reduceBEq, Bool.or_true, Bool.true_or, Bool.or_false, Bool.false_or, Bool.and_true, Bool.true_and, Bool.and_false, Bool.false_and, line_eq, reduceCtorEq, String.reduceEq, e, h, len_MM1]
  · simp only [L__law_tokens_4, bind_ok', bind_bad', bind_exc', to_ok, to_bad, to_exc, seq_nx, seq_rt, seq_bk, seq_ct, seq_bad, seq_exc, fin_nx, fin_rt, fin_exc, run_eq, sSeq_eq, sNext_eq, sIf_eq, sSet_eq, sAug_eq, sRet_eq, sRetN_eq, sExpr_eq, sFor_eq, loop_nil, gN_eq, var_0, var_s, dC_eq, dBin_eq, dNot_eq, dAnd_eq, dOr_eq, dAndV_eq, dOrV_eq, dNotV_eq, dIf_eq, asBool_bl, toB_eq, dNil_eq, dCons_eq, dCall_eq, dTup_eq, dLst_eq, dImm_eq, dMut_eq, dStill_eq, dRange1_eq, dRange2_eq, add_ii, iadd_ii, sub_ii, and_ii, dNeg_eq, neg_i, cmp_ii, cmp_ss, eq_ii, eq_ss, eq_bb, len_t, len_l, len_f, max2_ii, min2_ii, int_b, dIsT_eq, isT_b, isT_i, isT_s, isT_n, isT_t, isT_l, dSl_eq, oNone_eq, oSome_eq, optI_i, sl_t, sl_l, sl_f, dM1_eq, dM1L_eq, m1k_s, f2_ss, dComp_eq, nox_ok, dYes_eq, dMl_eq, mlk_0, mlk2_0, mlk_1, mlk2_1, pop_ok, clear_ok, isT_loc0, isT_f, len_loc0, seqW_l, seqW_t, seqW_f, seqW_sg, is_nn, is_tn, when_true, nc0, nc1, nc2, nc3, nc4, nc5, nc6, nc7, nc8, ofStr_beq, dPick_eq, ofStr_eq, ixt0, ixt1, ixt2, ixt3, ixl0, ixl1, ixl2, ixl3, dEnumT_eq, enumK_t, pair_tt, dFld_eq, sFld_eq, sFldA_eq, dMeth_eq, List.map_cons, List.map_nil, List.length_cons, List.length_nil, List.replicate_succ, List.replicate_zero, List.cons_append, List.nil_append, List.set_cons_zero, List.set_cons_succ, Nat.reduceSub, Nat.reduceAdd, Nat.zero_add, if_true, Bool.false_eq_true, if_false, decide_true, decide_false, Bool.not_true, Bool.not_false, id, reduceIte, start_eq, List.length_map, Nat.reduceLeDiff, Int.reduceBEq, Bool.or_true, Bool.true_or, Bool.or_false, Bool.false_or, Bool.and_true, Bool.true_and, Bool.and_false, Bool.false_and, line_eq, reduceCtorEq, String.reduceEq, e, h]
def canOr : List Fr → Bool
  | f :: _ => (match f.head with | .eit => decide (f.full.length < 3) | _ => false)
  | [] => false
theorem t1_ok (F : Fn → FnD) (s : W) (a b c k m way : Int) (w9 : Option W) (ts : List Tk) (ns : List Nat) (fs : List Fr) (rest : Mem) (hf : FrOk rest ns fs) : L__law_tokens_1 F (RR s a b c k m way w9) (MM ts ns rest) = .ok (decide (way < 7) && canOr fs) (MM ts ns rest) := by
  by_cases h : way < 7
  · cases ns with
    | nil =>
      cases fs with
      | nil =>
        have hl := len_MM1 ts [] rest
        simp only [L__law_tokens_1, bind_ok', bind_bad', bind_exc', to_ok, to_bad, to_exc, seq_nx, seq_rt, seq_bk, seq_ct, seq_bad, seq_exc, fin_nx, fin_rt, fin_exc, run_eq, sSeq_eq, sNext_eq, sIf_eq, sSet_eq, sAug_eq, sRet_eq, sRetN_eq, sExpr_eq, sFor_eq, loop_nil, gN_eq, var_0, var_s, dC_eq, dBin_eq, dNot_eq, dAnd_eq, dOr_eq, dAndV_eq, dOrV_eq, dNotV_eq, dIf_eq, asBool_bl, toB_eq, dNil_eq, dCons_eq, dCall_eq, dTup_eq, dLst_eq, dImm_eq, dMut_eq, dStill_eq, dRange1_eq, dRange2_eq, add_ii, iadd_ii, sub_ii, and_ii, dNeg_eq, neg_i, cmp_ii, cmp_ss, eq_ii, eq_ss, eq_bb, len_t, len_l, len_f, max2_ii, min2_ii, int_b, dIsT_eq, isT_b, isT_i, isT_s, isT_n, isT_t, isT_l, dSl_eq, oNone_eq, oSome_eq, optI_i, sl_t, sl_l, sl_f, dM1_eq, dM1L_eq, m1k_s, f2_ss, dComp_eq, nox_ok, dYes_eq, dMl_eq, mlk_0, mlk2_0, mlk_1, mlk2_1, pop_ok, clear_ok, isT_loc0, isT_f, len_loc0, seqW_l, seqW_t, seqW_f, seqW_sg, is_nn, is_tn, when_true, nc0, nc1, nc2, nc3, nc4, nc5, nc6, nc7, nc8, ofStr_beq, dPick_eq, ofStr_eq, ixt0, ixt1, ixt2, ixt3, ixl0, ixl1, ixl2, ixl3, dEnumT_eq, enumK_t, pair_tt, dFld_eq, sFld_eq, sFldA_eq, dMeth_eq, List.map_cons, List.map_nil, List.length_cons, List.length_nil, List.replicate_succ, List.replicate_zero, List.cons_append, List.nil_append, List.set_cons_zero, List.set_cons_succ, Nat.reduceSub, Nat.reduceAdd, Nat.zero_add, if_true, Bool.false_eq_true, if_false, decide_true, decide_false, Bool.not_true, Bool.not_false, id, reduceIte, start_eq, List.length_map, Nat.reduceLeDiff, Int.reduceBEq, Bool.or_true, Bool.true_or, Bool.or_false, Bool.false_or, Bool.and_true, Bool.true_and, Bool.and_false, Bool.false_and, line_eq, reduceCtorEq, String.reduceEq, h, hl]
        rfl
      | cons f fs => exact hf.elim
    | cons n ns =>
      cases fs with
      | nil => exact hf.elim
      | cons f fs =>
        obtain ⟨h1, h2, h3, h4, h5, h6⟩ := hf
        have hl := len_MM1 ts (n :: ns) rest
        have hp : (0 : Int) < ((ns.length + 1 : Nat) : Int) := by omega
        have i1 : vIx (.loc 1) (.int (-1)) (MM ts (n :: ns) rest) = .ok (.loc (n + 2)) (MM ts (n :: ns) rest) := ix_cell (n := 1) (ws := nW (n :: ns)) rfl (by rw [nW_cons]; exact atI_last _ _)
        have i2 : vIx (.loc (n + 2)) (.int 0) (MM ts (n :: ns) rest) = .ok (.str (kindS f.head)) (MM ts (n :: ns) rest) := ix_cell (n := n + 2) h2 rfl
        have i3 : vIx (.loc (n + 2)) (.int 1) (MM ts (n :: ns) rest) = .ok (.int ((f.full.length : Nat) + 1)) (MM ts (n :: ns) rest) := ix_cell (n := n + 2) h2 rfl
        have e4 : decide (((f.full.length : Nat) : Int) + 1 < 4) = decide (f.full.length < 3) := by
          by_cases q : f.full.length < 3
          · rw [decide_eq_true q, decide_eq_true (by omega)]
          · rw [decide_eq_false q, decide_eq_false (by omega)]
        simp only [canOr]
        cases hh : f.head with
        | opn => rw [hh] at i2; simp only [L__law_tokens_1, bind_ok', bind_bad', bind_exc', to_ok, to_bad, to_exc, seq_nx, seq_rt, seq_bk, seq_ct, seq_bad, seq_exc, fin_nx, fin_rt, fin_exc, run_eq, sSeq_eq, sNext_eq, sIf_eq, sSet_eq, sAug_eq, sRet_eq, sRetN_eq, sExpr_eq, sFor_eq, loop_nil, gN_eq, var_0, var_s, dC_eq, dBin_eq, dNot_eq, dAnd_eq, dOr_eq, dAndV_eq, dOrV_eq, dNotV_eq, dIf_eq, asBool_bl, toB_eq, dNil_eq, dCons_eq, dCall_eq, dTup_eq, dLst_eq, dImm_eq, dMut_eq, dStill_eq, dRange1_eq, dRange2_eq, add_ii, iadd_ii, sub_ii, and_ii, dNeg_eq, neg_i, cmp_ii, cmp_ss, eq_ii, eq_ss, eq_bb, len_t, len_l, len_f, max2_ii, min2_ii, int_b, dIsT_eq, isT_b, isT_i, isT_s, isT_n, isT_t, isT_l, dSl_eq, oNone_eq, oSome_eq, optI_i, sl_t, sl_l, sl_f, dM1_eq, dM1L_eq, m1k_s, f2_ss, dComp_eq, nox_ok, dYes_eq, dMl_eq, mlk_0, mlk2_0, mlk_1, mlk2_1, pop_ok, clear_ok, isT_loc0, isT_f, len_loc0, seqW_l, seqW_t, seqW_f, seqW_sg, is_nn, is_tn, when_true, nc0, nc1, nc2, nc3, nc4, nc5, nc6, nc7, nc8, ofStr_beq, dPick_eq, ofStr_eq, ixt0, ixt1, ixt2, ixt3, ixl0, ixl1, ixl2, ixl3, dEnumT_eq, enumK_t, pair_tt, dFld_eq, sFld_eq, sFldA_eq, dMeth_eq, List.map_cons, List.map_nil, List.length_cons, List.length_nil, List.replicate_succ, List.replicate_zero, List.cons_append, List.nil_append, List.set_cons_zero, List.set_cons_succ, Nat.reduceSub, Nat.reduceAdd, Nat.zero_add, if_true, Bool.false_eq_true, if_false, decide_true, decide_false, Bool.not_true, Bool.not_false, id, reduceIte, start_eq, List.length_map, Nat.reduceLeDiff, Int.reduceBEq, Bool.or_true, Bool.true_or, Bool.or_false, Bool.false_or, Bool.and_true, Bool.true_and, Bool.and_false, Bool.false_and, line_eq, reduceCtorEq, String.reduceEq, h, hl, hp, i1, i2, kindS]
        | hng => rw [hh] at i2; simp only [L__law_tokens_1, bind_ok', bind_bad', bind_exc', to_ok, to_bad, to_exc, seq_nx, seq_rt, seq_bk, seq_ct, seq_bad, seq_exc, fin_nx, fin_rt, fin_exc, run_eq, sSeq_eq, sNext_eq, sIf_eq, sSet_eq, sAug_eq, sRet_eq, sRetN_eq, sExpr_eq, sFor_eq, loop_nil, gN_eq, var_0, var_s, dC_eq, dBin_eq, dNot_eq, dAnd_eq, dOr_eq, dAndV_eq, dOrV_eq, dNotV_eq, dIf_eq, asBool_bl, toB_eq, dNil_eq, dCons_eq, dCall_eq, dTup_eq, dLst_eq, dImm_eq, dMut_eq, dStill_eq, dRange1_eq, dRange2_eq, add_ii, iadd_ii, sub_ii, and_ii, dNeg_eq, neg_i, cmp_ii, cmp_ss, eq_ii, eq_ss, eq_bb, len_t, len_l, len_f, max2_ii, min2_ii, int_b, dIsT_eq, isT_b, isT_i, isT_s, isT_n, isT_t, isT_l, dSl_eq, oNone_eq, oSome_eq, optI_i, sl_t, sl_l, sl_f, dM1_eq, dM1L_eq, m1k_s, f2_ss, dComp_eq, nox_ok, dYes_eq, dMl_eq, mlk_0, mlk2_0, mlk_1, mlk2_1, pop_ok, clear_ok, isT_loc0, isT_f, len_loc0, seqW_l, seqW_t, seqW_f, seqW_sg, is_nn, is_tn, when_true, nc0, nc1, nc2, nc3, nc4, nc5, nc6, nc7, nc8, ofStr_beq, dPick_eq, ofStr_eq, ixt0, ixt1, ixt2, ixt3, ixl0, ixl1, ixl2, ixl3, dEnumT_eq, enumK_t, pair_tt, dFld_eq, sFld_eq, sFldA_eq, dMeth_eq, List.map_cons, List.map_nil, List.length_cons, List.length_nil, List.replicate_succ, List.replicate_zero, List.cons_append, List.nil_append, List.set_cons_zero, List.set_cons_succ, Nat.reduceSub, Nat.reduceAdd, Nat.zero_add, if_true, Bool.false_eq_true, if_false, decide_true, decide_false, Bool.not_true, Bool.not_false, id, reduceIte, start_eq, List.length_map, Nat.reduceLeDiff, Int.reduceBEq, Bool.or_true, Bool.true_or, Bool.or_false, Bool.false_or, Bool.and_true, Bool.true_and, Bool.and_false, Bool.false_and, line_eq, reduceCtorEq, String.reduceEq, h, hl, hp, i1, i2, kindS]
        | eit => rw [hh] at i2; simp only [L__law_tokens_1, bind_ok', bind_bad', bind_exc', to_ok, to_bad, to_exc, seq_nx, seq_rt, seq_bk, seq_ct, seq_bad, seq_exc, fin_nx, fin_rt, fin_exc, run_eq, sSeq_eq, sNext_eq, sIf_eq, sSet_eq, sAug_eq, sRet_eq, sRetN_eq, sExpr_eq, sFor_eq, loop_nil, gN_eq, var_0, var_s, dC_eq, dBin_eq, dNot_eq, dAnd_eq, dOr_eq, dAndV_eq, dOrV_eq, dNotV_eq, dIf_eq, asBool_bl, toB_eq, dNil_eq, dCons_eq, dCall_eq, dTup_eq, dLst_eq, dImm_eq, dMut_eq, dStill_eq, dRange1_eq, dRange2_eq, add_ii, iadd_ii, sub_ii, and_ii, dNeg_eq, neg_i, cmp_ii, cmp_ss, eq_ii, eq_ss, eq_bb, len_t, len_l, len_f, max2_ii, min2_ii, int_b, dIsT_eq, isT_b, isT_i, isT_s, isT_n, isT_t, isT_l, dSl_eq, oNone_eq, oSome_eq, optI_i, sl_t, sl_l, sl_f, dM1_eq, dM1L_eq, m1k_s, f2_ss, dComp_eq, nox_ok, dYes_eq, dMl_eq, mlk_0, mlk2_0, mlk_1, mlk2_1, pop_ok, clear_ok, isT_loc0, isT_f, len_loc0, seqW_l, seqW_t, seqW_f, seqW_sg, is_nn, is_tn, when_true, nc0, nc1, nc2, nc3, nc4, nc5, nc6, nc7, nc8, ofStr_beq, dPick_eq, ofStr_eq, ixt0, ixt1, ixt2, ixt3, ixl0, ixl1, ixl2, ixl3, dEnumT_eq, enumK_t, pair_tt, dFld_eq, sFld_eq, sFldA_eq, dMeth_eq, List.map_cons, List.map_nil, List.length_cons, List.length_nil, List.replicate_succ, List.replicate_zero, List.cons_append, List.nil_append, List.set_cons_zero, List.set_cons_succ, Nat.reduceSub, Nat.reduceAdd, Nat.zero_add, if_true, Bool.false_eq_true, if_false, decide_true, decide_false, Bool.not_true, Bool.not_false, id, reduceIte, start_eq, List.length_map, Nat.reduceLeDiff, Int.reduceBEq, Bool.or_true, Bool.true_or, Bool.or_false, Bool.false_or, Bool.and_true, Bool.true_and, Bool.and_false, Bool.false_and, line_eq, reduceCtorEq, String.reduceEq, h, hl, hp, i1, i2, i3, kindS, e4]
        | _ => rw [hh] at h3; cases h3
  · simp only [L__law_tokens_1, bind_ok', bind_bad', bind_exc', to_ok, to_bad, to_exc, seq_nx, seq_rt, seq_bk, seq_ct, seq_bad, seq_exc, fin_nx, fin_rt, fin_exc, run_eq, sSeq_eq, sNext_eq, sIf_eq, sSet_eq, sAug_eq, sRet_eq, sRetN_eq, sExpr_eq, sFor_eq, loop_nil, gN_eq, var_0, var_s, dC_eq, dBin_eq, dNot_eq, dAnd_eq, dOr_eq, dAndV_eq, dOrV_eq, dNotV_eq, dIf_eq, asBool_bl, toB_eq, dNil_eq, dCons_eq, dCall_eq, dTup_eq, dLst_eq, dImm_eq, dMut_eq, dStill_eq, dRange1_eq, dRange2_eq, add_ii, iadd_ii, sub_ii, and_ii, dNeg_eq, neg_i, cmp_ii, cmp_ss, eq_ii, eq_ss, eq_bb, len_t, len_l, len_f, max2_ii, min2_ii, int_b, dIsT_eq, isT_b, isT_i, isT_s, isT_n, isT_t, isT_l, dSl_eq, oNone_eq, oSome_eq, optI_i, sl_t, sl_l, sl_f, dM1_eq, dM1L_eq, m1k_s, f2_ss, dComp_eq, nox_ok, dYes_eq, dMl_eq, mlk_0, mlk2_0, mlk_1, mlk2_1, pop_ok, clear_ok, isT_loc0, isT_f, len_loc0, seqW_l, seqW_t, seqW_f, seqW_sg, is_nn, is_tn, when_true, nc0, nc1, nc2, nc3, nc4, nc5, nc6, nc7, nc8, ofStr_beq, dPick_eq, ofStr_eq, ixt0, ixt1, ixt2, ixt3, ixl0, ixl1, ixl2, ixl3, dEnumT_eq, enumK_t, pair_tt, dFld_eq, sFld_eq, sFldA_eq, dMeth_eq, List.map_cons, List.map_nil, List.length_cons, List.length_nil, List.replicate_succ, List.replicate_zero, List.cons_append, List.nil_append, List.set_cons_zero, List.set_cons_succ, Nat.reduceSub, Nat.reduceAdd, Nat.zero_add, if_true, Bool.false_eq_true, if_false, decide_true, decide_false, Bool.not_true, Bool.not_false, id, reduceIte, start_eq, List.length_map, Nat.reduceLeDiff, Int.reduceBEq, Bool.or_true, Bool.true_or, Bool.or_false, Bool.false_or, Bool.and_true, Bool.true_and, Bool.and_false, Bool.false_and, line_eq, reduceCtorEq, String.reduceEq, h]
theorem tok_leaf (n : Nat) (s : W) (a b c k m way m2 : Int) (w9 : Option W) (ts : List Tk) (ns : List Nat) (rest : Mem) (t : Tk) (hl : ts.length ≤ 1000000) (h1 : ∀ M, callP 3 (TT n .f__law_mixed) [s, .int k, .int 32] M = .ok (.int m2) M) (h2 : ∀ M, callP 1 (TT n .f__law_leaf) [.int m2] M = .ok (tW t) M) :
    L__law_tokens_3 (TT n) (RR s a b c k m way w9) (MM ts ns rest) = .nx (RR s a b c k m way w9) (MM (ts ++ [t]) ns rest) := by
  have ha : ∀ M : Mem, fAppend 0 (tsW ts) [tW t] M = .ok .non (M.set 0 (.lst (tsW ts ++ [tW t]))) := fun M => append_ok (by rw [List.length_map]; omega)
  have e : tsW (ts ++ [t]) = tsW ts ++ [tW t] := List.map_append
  rw [MM, MM, e]
  simp only [L__law_tokens_3, bind_ok', bind_bad', bind_exc', to_ok, to_bad, to_exc, seq_nx, seq_rt, seq_bk, seq_ct, seq_bad, seq_exc, fin_nx, fin_rt, fin_exc, run_eq, sSeq_eq, sNext_eq, sIf_eq, sSet_eq, sAug_eq, sRet_eq, sRetN_eq, sExpr_eq, sFor_eq, loop_nil, gN_eq, var_0, var_s, dC_eq, dBin_eq, dNot_eq, dAnd_eq, dOr_eq, dAndV_eq, dOrV_eq, dNotV_eq, dIf_eq, asBool_bl, toB_eq, dNil_eq, dCons_eq, dCall_eq, dTup_eq, dLst_eq, dImm_eq, dMut_eq, dStill_eq, dRange1_eq, dRange2_eq, add_ii, iadd_ii, sub_ii, and_ii, dNeg_eq, neg_i, cmp_ii, cmp_ss, eq_ii, eq_ss, eq_bb, len_t, len_l, len_f, max2_ii, min2_ii, int_b, dIsT_eq, isT_b, isT_i, isT_s, isT_n, isT_t, isT_l, dSl_eq, oNone_eq, oSome_eq, optI_i, sl_t, sl_l, sl_f, dM1_eq, dM1L_eq, m1k_s, f2_ss, dComp_eq, nox_ok, dYes_eq, dMl_eq, mlk_0, mlk2_0, mlk_1, mlk2_1, pop_ok, clear_ok, isT_loc0, isT_f, len_loc0, seqW_l, seqW_t, seqW_f, seqW_sg, is_nn, is_tn, when_true, nc0, nc1, nc2, nc3, nc4, nc5, nc6, nc7, nc8, ofStr_beq, dPick_eq, ofStr_eq, ixt0, ixt1, ixt2, ixt3, ixl0, ixl1, ixl2, ixl3, dEnumT_eq, enumK_t, pair_tt, dFld_eq, sFld_eq, sFldA_eq, dMeth_eq, List.map_cons, List.map_nil, List.length_cons, List.length_nil, List.replicate_succ, List.replicate_zero, List.cons_append, List.nil_append, List.set_cons_zero, List.set_cons_succ, Nat.reduceSub, Nat.reduceAdd, Nat.zero_add, if_true, Bool.false_eq_true, if_false, decide_true, decide_false, Bool.not_true, Bool.not_false, id, reduceIte, start_eq, List.length_map, Nat.reduceLeDiff, Int.reduceBEq, Bool.or_true, Bool.true_or, Bool.or_false, Bool.false_or, Bool.and_true, Bool.true_and, Bool.and_false, Bool.false_and, line_eq, reduceCtorEq, String.reduceEq, h1, h2, ha]
theorem tok_open (n : Nat) (s : W) (a b c k m way : Int) (w9 : Option W) (ts : List Tk) (ns : List Nat) (rest : Mem) (m0 : 0 ≤ m) (hw : 0 ≤ way ∧ way < 4) (hl : ts.length ≤ 1000000) (hn : ns.length ≤ 1000000) :
    ∃ t w9', isOpen t = true ∧ okT t = true ∧ L__law_tokens_8 (TT n) (RR s a b c k m way w9) (MM ts ns rest) = .nx (RR s a b c k m way w9') (MM (ts ++ [t]) (rest.length :: ns) (rest ++ [.lst [.str (kindS t), .int 1]])) := by
  have ha : ∀ (t : Tk) (M : Mem), fAppend 0 (tsW ts) [tW t] M = .ok .non (M.set 0 (.lst (tsW ts ++ [tW t]))) := fun t M => append_ok (by rw [List.length_map]; omega)
  have hb : ∀ (x : W) (M : Mem), fAppend 1 (nW ns) [x] M = .ok .non (M.set 1 (.lst (nW ns ++ [x]))) := fun t M => append_ok (by rw [nW_len]; omega)
  have e : ∀ t, tsW (ts ++ [t]) = tsW ts ++ [tW t] := fun t => List.map_append
  have o13 : (0 : Int) < 13 := by decide
  have p13 : (13 : Int) < 1073741824 := by decide
  have s1 : (1 : Nat) ≤ 16777216 := by decide
  have s2 : (2 : Nat) ≤ 16777216 := by decide
  have s4 : (4 : Nat) ≤ 16777216 := by decide
  have i0 : ∀ x y z u : W, atI [x, y, z, u] 0 = some x := fun _ _ _ _ => rfl
  have i1 : ∀ x y z u : W, atI [x, y, z, u] 1 = some y := fun _ _ _ _ => rfl
  have i2 : ∀ x y z u : W, atI [x, y, z, u] 2 = some z := fun _ _ _ _ => rfl
  have i3 : ∀ x y z u : W, atI [x, y, z, u] 3 = some u := fun _ _ _ _ => rfl
  have j0 : ∀ x y : W, atI [x, y] 0 = some x := fun _ _ => rfl
  have j1 : ∀ x y : W, atI [x, y] 1 = some y := fun _ _ => rfl
  have a0 := ha .opn
  have a1 := ha (.hng (m / 13 % 13))
  have a2 := ha .eit
  simp only [tW] at a0 a1 a2
  have hw4 : way = 0 ∨ way = 1 ∨ way = 2 ∨ way = 3 := by omega
  have fin : ∀ (t : Tk) (ρ : Rho), SRes.nx ρ ((Cell.lst (tsW ts ++ [tW t])) :: .lst (nW ns ++ [.loc (rest.length + 2)]) :: (rest ++ [.lst [.str (kindS t), .int 1]])) = .nx ρ (MM (ts ++ [t]) (rest.length :: ns) (rest ++ [.lst [.str (kindS t), .int 1]])) := fun t ρ => by rw [MM, e, nW_cons]
  rcases hw4 with rfl | rfl | rfl | rfl
  · refine ⟨.opn, some (.str (Str.ofString "open")), rfl, rfl, ?_⟩
    rw [← fin]
    simp only [L__law_tokens_8, bind_ok', bind_bad', bind_exc', to_ok, to_bad, to_exc, seq_nx, seq_rt, seq_bk, seq_ct, seq_bad, seq_exc, fin_nx, fin_rt, fin_exc, run_eq, sSeq_eq, sNext_eq, sIf_eq, sSet_eq, sAug_eq, sRet_eq, sRetN_eq, sExpr_eq, sFor_eq, loop_nil, gN_eq, var_0, var_s, dC_eq, dBin_eq, dNot_eq, dAnd_eq, dOr_eq, dAndV_eq, dOrV_eq, dNotV_eq, dIf_eq, asBool_bl, toB_eq, dNil_eq, dCons_eq, dCall_eq, dTup_eq, dLst_eq, dImm_eq, dMut_eq, dStill_eq, dRange1_eq, dRange2_eq, add_ii, iadd_ii, sub_ii, and_ii, dNeg_eq, neg_i, cmp_ii, cmp_ss, eq_ii, eq_ss, eq_bb, len_t, len_l, len_f, max2_ii, min2_ii, int_b, dIsT_eq, isT_b, isT_i, isT_s, isT_n, isT_t, isT_l, dSl_eq, oNone_eq, oSome_eq, optI_i, sl_t, sl_l, sl_f, dM1_eq, dM1L_eq, m1k_s, f2_ss, dComp_eq, nox_ok, dYes_eq, dMl_eq, mlk_0, mlk2_0, mlk_1, mlk2_1, pop_ok, clear_ok, isT_loc0, isT_f, len_loc0, seqW_l, seqW_t, seqW_f, seqW_sg, is_nn, is_tn, when_true, nc0, nc1, nc2, nc3, nc4, nc5, nc6, nc7, nc8, ofStr_beq, dPick_eq, ofStr_eq, ixt0, ixt1, ixt2, ixt3, ixl0, ixl1, ixl2, ixl3, dEnumT_eq, enumK_t, pair_tt, dFld_eq, sFld_eq, sFldA_eq, dMeth_eq, List.map_cons, List.map_nil, List.length_cons, List.length_nil, List.replicate_succ, List.replicate_zero, List.cons_append, List.nil_append, List.set_cons_zero, List.set_cons_succ, Nat.reduceSub, Nat.reduceAdd, Nat.zero_add, if_true, Bool.false_eq_true, if_false, decide_true, decide_false, Bool.not_true, Bool.not_false, id, reduceIte, start_eq, List.length_map, Nat.reduceLeDiff, Int.reduceBEq, Bool.or_true, Bool.true_or, Bool.or_false, Bool.false_or, Bool.and_true, Bool.true_and, Bool.and_false, Bool.false_and, line_eq, reduceCtorEq, String.reduceEq, s4, s2, s1, ix_l (i0 _ _ _ _), ix_l (j0 _ _), mod_ok o13, div_ok o13 p13, a0, hb, tW, kindS]
  · refine ⟨.opn, some (.str (Str.ofString "open")), rfl, rfl, ?_⟩
    rw [← fin]
    simp only [L__law_tokens_8, bind_ok', bind_bad', bind_exc', to_ok, to_bad, to_exc, seq_nx, seq_rt, seq_bk, seq_ct, seq_bad, seq_exc, fin_nx, fin_rt, fin_exc, run_eq, sSeq_eq, sNext_eq, sIf_eq, sSet_eq, sAug_eq, sRet_eq, sRetN_eq, sExpr_eq, sFor_eq, loop_nil, gN_eq, var_0, var_s, dC_eq, dBin_eq, dNot_eq, dAnd_eq, dOr_eq, dAndV_eq, dOrV_eq, dNotV_eq, dIf_eq, asBool_bl, toB_eq, dNil_eq, dCons_eq, dCall_eq, dTup_eq, dLst_eq, dImm_eq, dMut_eq, dStill_eq, dRange1_eq, dRange2_eq, add_ii, iadd_ii, sub_ii, and_ii, dNeg_eq, neg_i, cmp_ii, cmp_ss, eq_ii, eq_ss, eq_bb, len_t, len_l, len_f, max2_ii, min2_ii, int_b, dIsT_eq, isT_b, isT_i, isT_s, isT_n, isT_t, isT_l, dSl_eq, oNone_eq, oSome_eq, optI_i, sl_t, sl_l, sl_f, dM1_eq, dM1L_eq, m1k_s, f2_ss, dComp_eq, nox_ok, dYes_eq, dMl_eq, mlk_0, mlk2_0, mlk_1, mlk2_1, pop_ok, clear_ok, isT_loc0, isT_f, len_loc0, seqW_l, seqW_t, seqW_f, seqW_sg, is_nn, is_tn, when_true, nc0, nc1, nc2, nc3, nc4, nc5, nc6, nc7, nc8, ofStr_beq, dPick_eq, ofStr_eq, ixt0, ixt1, ixt2, ixt3, ixl0, ixl1, ixl2, ixl3, dEnumT_eq, enumK_t, pair_tt, dFld_eq, sFld_eq, sFldA_eq, dMeth_eq, List.map_cons, List.map_nil, List.length_cons, List.length_nil, List.replicate_succ, List.replicate_zero, List.cons_append, List.nil_append, List.set_cons_zero, List.set_cons_succ, Nat.reduceSub, Nat.reduceAdd, Nat.zero_add, if_true, Bool.false_eq_true, if_false, decide_true, decide_false, Bool.not_true, Bool.not_false, id, reduceIte, start_eq, List.length_map, Nat.reduceLeDiff, Int.reduceBEq, Bool.or_true, Bool.true_or, Bool.or_false, Bool.false_or, Bool.and_true, Bool.true_and, Bool.and_false, Bool.false_and, line_eq, reduceCtorEq, String.reduceEq, s4, s2, s1, ix_l (i1 _ _ _ _), ix_l (j0 _ _), mod_ok o13, div_ok o13 p13, a0, hb, tW, kindS]
  · refine ⟨.hng (m / 13 % 13), some (.str (Str.ofString "hang")), rfl, decide_eq_true (by omega), ?_⟩
    rw [← fin]
    simp only [L__law_tokens_8, bind_ok', bind_bad', bind_exc', to_ok, to_bad, to_exc, seq_nx, seq_rt, seq_bk, seq_ct, seq_bad, seq_exc, fin_nx, fin_rt, fin_exc, run_eq, sSeq_eq, sNext_eq, sIf_eq, sSet_eq, sAug_eq, sRet_eq, sRetN_eq, sExpr_eq, sFor_eq, loop_nil, gN_eq, var_0, var_s, dC_eq, dBin_eq, dNot_eq, dAnd_eq, dOr_eq, dAndV_eq, dOrV_eq, dNotV_eq, dIf_eq, asBool_bl, toB_eq, dNil_eq, dCons_eq, dCall_eq, dTup_eq, dLst_eq, dImm_eq, dMut_eq, dStill_eq, dRange1_eq, dRange2_eq, add_ii, iadd_ii, sub_ii, and_ii, dNeg_eq, neg_i, cmp_ii, cmp_ss, eq_ii, eq_ss, eq_bb, len_t, len_l, len_f, max2_ii, min2_ii, int_b, dIsT_eq, isT_b, isT_i, isT_s, isT_n, isT_t, isT_l, dSl_eq, oNone_eq, oSome_eq, optI_i, sl_t, sl_l, sl_f, dM1_eq, dM1L_eq, m1k_s, f2_ss, dComp_eq, nox_ok, dYes_eq, dMl_eq, mlk_0, mlk2_0, mlk_1, mlk2_1, pop_ok, clear_ok, isT_loc0, isT_f, len_loc0, seqW_l, seqW_t, seqW_f, seqW_sg, is_nn, is_tn, when_true, nc0, nc1, nc2, nc3, nc4, nc5, nc6, nc7, nc8, ofStr_beq, dPick_eq, ofStr_eq, ixt0, ixt1, ixt2, ixt3, ixl0, ixl1, ixl2, ixl3, dEnumT_eq, enumK_t, pair_tt, dFld_eq, sFld_eq, sFldA_eq, dMeth_eq, List.map_cons, List.map_nil, List.length_cons, List.length_nil, List.replicate_succ, List.replicate_zero, List.cons_append, List.nil_append, List.set_cons_zero, List.set_cons_succ, Nat.reduceSub, Nat.reduceAdd, Nat.zero_add, if_true, Bool.false_eq_true, if_false, decide_true, decide_false, Bool.not_true, Bool.not_false, id, reduceIte, start_eq, List.length_map, Nat.reduceLeDiff, Int.reduceBEq, Bool.or_true, Bool.true_or, Bool.or_false, Bool.false_or, Bool.and_true, Bool.true_and, Bool.and_false, Bool.false_and, line_eq, reduceCtorEq, String.reduceEq, s4, s2, s1, ix_l (i2 _ _ _ _), ix_l (j1 _ _), mod_ok o13, div_ok o13 p13, a1, hb, tW, kindS]
  · refine ⟨.eit, some (.str (Str.ofString "either")), rfl, rfl, ?_⟩
    rw [← fin]
    simp only [L__law_tokens_8, bind_ok', bind_bad', bind_exc', to_ok, to_bad, to_exc, seq_nx, seq_rt, seq_bk, seq_ct, seq_bad, seq_exc, fin_nx, fin_rt, fin_exc, run_eq, sSeq_eq, sNext_eq, sIf_eq, sSet_eq, sAug_eq, sRet_eq, sRetN_eq, sExpr_eq, sFor_eq, loop_nil, gN_eq, var_0, var_s, dC_eq, dBin_eq, dNot_eq, dAnd_eq, dOr_eq, dAndV_eq, dOrV_eq, dNotV_eq, dIf_eq, asBool_bl, toB_eq, dNil_eq, dCons_eq, dCall_eq, dTup_eq, dLst_eq, dImm_eq, dMut_eq, dStill_eq, dRange1_eq, dRange2_eq, add_ii, iadd_ii, sub_ii, and_ii, dNeg_eq, neg_i, cmp_ii, cmp_ss, eq_ii, eq_ss, eq_bb, len_t, len_l, len_f, max2_ii, min2_ii, int_b, dIsT_eq, isT_b, isT_i, isT_s, isT_n, isT_t, isT_l, dSl_eq, oNone_eq, oSome_eq, optI_i, sl_t, sl_l, sl_f, dM1_eq, dM1L_eq, m1k_s, f2_ss, dComp_eq, nox_ok, dYes_eq, dMl_eq, mlk_0, mlk2_0, mlk_1, mlk2_1, pop_ok, clear_ok, isT_loc0, isT_f, len_loc0, seqW_l, seqW_t, seqW_f, seqW_sg, is_nn, is_tn, when_true, nc0, nc1, nc2, nc3, nc4, nc5, nc6, nc7, nc8, ofStr_beq, dPick_eq, ofStr_eq, ixt0, ixt1, ixt2, ixt3, ixl0, ixl1, ixl2, ixl3, dEnumT_eq, enumK_t, pair_tt, dFld_eq, sFld_eq, sFldA_eq, dMeth_eq, List.map_cons, List.map_nil, List.length_cons, List.length_nil, List.replicate_succ, List.replicate_zero, List.cons_append, List.nil_append, List.set_cons_zero, List.set_cons_succ, Nat.reduceSub, Nat.reduceAdd, Nat.zero_add, if_true, Bool.false_eq_true, if_false, decide_true, decide_false, Bool.not_true, Bool.not_false, id, reduceIte, start_eq, List.length_map, Nat.reduceLeDiff, Int.reduceBEq, Bool.or_true, Bool.true_or, Bool.or_false, Bool.false_or, Bool.and_true, Bool.true_and, Bool.and_false, Bool.false_and, line_eq, reduceCtorEq, String.reduceEq, s4, s2, s1, ix_l (i3 _ _ _ _), ix_l (j0 _ _), mod_ok o13, div_ok o13 p13, a2, hb, tW, kindS]
theorem tok_or (n : Nat) (s : W) (a b c k m way : Int) (w9 : Option W) (ts : List Tk) (j : Nat) (ns : List Nat) (rest : Mem) (f : Fr) (fs : List Fr) (hf : FrOk rest (j :: ns) (f :: fs)) (hl : ts.length ≤ 1000000) :
    L__law_tokens_2 (TT n) (RR s a b c k m way w9) (MM ts (j :: ns) rest) = .nx (RR s a b c k m way w9) (MM (ts ++ [.or]) (j :: ns) (rest.set j (.lst [.str (kindS f.head), .int ((f.full.length : Nat) + 1 + 1)]))) := by
  obtain ⟨h1, h2, h3, h4, h5, h6⟩ := hf
  have i1 : vIx (.loc 1) (.int (-1)) (MM ts (j :: ns) rest) = .ok (.loc (j + 2)) (MM ts (j :: ns) rest) := ix_cell (n := 1) (ws := nW (j :: ns)) rfl (by rw [nW_cons]; exact atI_last _ _)
  have i3 : vIx (.loc (j + 2)) (.int 1) (MM ts (j :: ns) rest) = .ok (.int ((f.full.length : Nat) + 1)) (MM ts (j :: ns) rest) := ix_cell (n := j + 2) h2 rfl
  have ac : asC (MM ts (j :: ns) rest) (.loc (j + 2)) = some (j + 2, [.str (kindS f.head), .int ((f.full.length : Nat) + 1)]) := by
    show (cellL rest[j]?).map _ = _
    rw [h2]; rfl
  have s1 : (1 : Nat) ≤ 16777216 := by decide
  have ai : asI (W.int 1) = some 1 := rfl
  have ij : ixN 2 1 = some 1 := rfl
  have ha : ∀ M : Mem, fAppend 0 (tsW ts) [tW .or] M = .ok .non (M.set 0 (.lst (tsW ts ++ [tW .or]))) := fun M => append_ok (by rw [List.length_map]; omega)
  have e : tsW (ts ++ [.or]) = tsW ts ++ [tW .or] := List.map_append
  simp only [tW] at ha e
  have hp : sPut (dBin vAdd (dBin vIx (dBin vIx (dVar 5) (dNeg (dC (.int 1)))) (dC (.int 1))) (dC (.int 1))) (dBin vIx (dVar 5) (dNeg (dC (.int 1)))) (dC (.int 1)) (RR s a b c k m way w9) (MM ts (j :: ns) rest) =
      .nx (RR s a b c k m way w9) (MM ts (j :: ns) (rest.set j (.lst [.str (kindS f.head), .int ((f.full.length : Nat) + 1 + 1)]))) := by
    unfold sPut
    simp only [bind_ok', bind_bad', bind_exc', to_ok, to_bad, to_exc, seq_nx, seq_rt, seq_bk, seq_ct, seq_bad, seq_exc, fin_nx, fin_rt, fin_exc, run_eq, sSeq_eq, sNext_eq, sIf_eq, sSet_eq, sAug_eq, sRet_eq, sRetN_eq, sExpr_eq, sFor_eq, loop_nil, gN_eq, var_0, var_s, dC_eq, dBin_eq, dNot_eq, dAnd_eq, dOr_eq, dAndV_eq, dOrV_eq, dNotV_eq, dIf_eq, asBool_bl, toB_eq, dNil_eq, dCons_eq, dCall_eq, dTup_eq, dLst_eq, dImm_eq, dMut_eq, dStill_eq, dRange1_eq, dRange2_eq, add_ii, iadd_ii, sub_ii, and_ii, dNeg_eq, neg_i, cmp_ii, cmp_ss, eq_ii, eq_ss, eq_bb, len_t, len_l, len_f, max2_ii, min2_ii, int_b, dIsT_eq, isT_b, isT_i, isT_s, isT_n, isT_t, isT_l, dSl_eq, oNone_eq, oSome_eq, optI_i, sl_t, sl_l, sl_f, dM1_eq, dM1L_eq, m1k_s, f2_ss, dComp_eq, nox_ok, dYes_eq, dMl_eq, mlk_0, mlk2_0, mlk_1, mlk2_1, pop_ok, clear_ok, isT_loc0, isT_f, len_loc0, seqW_l, seqW_t, seqW_f, seqW_sg, is_nn, is_tn, when_true, nc0, nc1, nc2, nc3, nc4, nc5, nc6, nc7, nc8, ofStr_beq, dPick_eq, ofStr_eq, ixt0, ixt1, ixt2, ixt3, ixl0, ixl1, ixl2, ixl3, dEnumT_eq, enumK_t, pair_tt, dFld_eq, sFld_eq, sFldA_eq, dMeth_eq, List.map_cons, List.map_nil, List.length_cons, List.length_nil, List.replicate_succ, List.replicate_zero, List.cons_append, List.nil_append, List.set_cons_zero, List.set_cons_succ, Nat.reduceSub, Nat.reduceAdd, Nat.zero_add, if_true, Bool.false_eq_true, if_false, decide_true, decide_false, Bool.not_true, Bool.not_false, id, reduceIte, start_eq, List.length_map, Nat.reduceLeDiff, Int.reduceBEq, Bool.or_true, Bool.true_or, Bool.or_false, Bool.false_or, Bool.and_true, Bool.true_and, Bool.and_false, Bool.false_and, line_eq, reduceCtorEq, String.reduceEq, i1, i3, ac, ai, ij]
  rw [L__law_tokens_2, sSeq_eq, hp, seq_nx]
  rw [MM, MM, e]
  simp only [bind_ok', bind_bad', bind_exc', to_ok, to_bad, to_exc, seq_nx, seq_rt, seq_bk, seq_ct, seq_bad, seq_exc, fin_nx, fin_rt, fin_exc, run_eq, sSeq_eq, sNext_eq, sIf_eq, sSet_eq, sAug_eq, sRet_eq, sRetN_eq, sExpr_eq, sFor_eq, loop_nil, gN_eq, var_0, var_s, dC_eq, dBin_eq, dNot_eq, dAnd_eq, dOr_eq, dAndV_eq, dOrV_eq, dNotV_eq, dIf_eq, asBool_bl, toB_eq, dNil_eq, dCons_eq, dCall_eq, dTup_eq, dLst_eq, dImm_eq, dMut_eq, dStill_eq, dRange1_eq, dRange2_eq, add_ii, iadd_ii, sub_ii, and_ii, dNeg_eq, neg_i, cmp_ii, cmp_ss, eq_ii, eq_ss, eq_bb, len_t, len_l, len_f, max2_ii, min2_ii, int_b, dIsT_eq, isT_b, isT_i, isT_s, isT_n, isT_t, isT_l, dSl_eq, oNone_eq, oSome_eq, optI_i, sl_t, sl_l, sl_f, dM1_eq, dM1L_eq, m1k_s, f2_ss, dComp_eq, nox_ok, dYes_eq, dMl_eq, mlk_0, mlk2_0, mlk_1, mlk2_1, pop_ok, clear_ok, isT_loc0, isT_f, len_loc0, seqW_l, seqW_t, seqW_f, seqW_sg, is_nn, is_tn, when_true, nc0, nc1, nc2, nc3, nc4, nc5, nc6, nc7, nc8, ofStr_beq, dPick_eq, ofStr_eq, ixt0, ixt1, ixt2, ixt3, ixl0, ixl1, ixl2, ixl3, dEnumT_eq, enumK_t, pair_tt, dFld_eq, sFld_eq, sFldA_eq, dMeth_eq, List.map_cons, List.map_nil, List.length_cons, List.length_nil, List.replicate_succ, List.replicate_zero, List.cons_append, List.nil_append, List.set_cons_zero, List.set_cons_succ, Nat.reduceSub, Nat.reduceAdd, Nat.zero_add, if_true, Bool.false_eq_true, if_false, decide_true, decide_false, Bool.not_true, Bool.not_false, id, reduceIte, start_eq, List.length_map, Nat.reduceLeDiff, Int.reduceBEq, Bool.or_true, Bool.true_or, Bool.or_false, Bool.false_or, Bool.and_true, Bool.true_and, Bool.and_false, Bool.false_and, line_eq, reduceCtorEq, String.reduceEq, s1, ha]
theorem gU_2 (i j : Nat) (M : Mem) (n : Nat) (x y : W) (ρ : Rho) (h : M[n]? = some (.lst [x, y])) : gU [i, j] (.loc n) ρ M = some ((ρ.set i (some x)).set j (some y)) := by
  unfold gU
  have e : asQ M (.loc n) = some [x, y] := by show cellL M[n]? = _; rw [h]; rfl
  rw [e]
  rfl
def closes : Tk → Tk
  | .opn => .cls
  | .hng _ => .bck
  | _ => .dne
/-- what shutting the innermost writes -/
def shutT (f : Fr) : List Tk := match f.head, f.full with
  | .eit, [] => [.or, .dne]
  | h, _ => [closes h]
theorem shut_ok (n : Nat) (ts : List Tk) (j : Nat) (ns : List Nat) (rest : Mem) (f : Fr) (fs : List Fr) (hf : FrOk rest (j :: ns) (f :: fs)) (hl : ts.length ≤ 1000000) :
    TT (n + 1) .f__law_shutting [.loc 0, .loc 1] (MM ts (j :: ns) rest) = .ok .non (MM (ts ++ shutT f) ns rest) := by
  obtain ⟨h1, h2, h3, h4, h5, h6⟩ := hf
  have ha : ∀ (ts : List Tk) (t : Tk) (M : Mem), ts.length ≤ 1000001 → fAppend 0 (tsW ts) [tW t] M = .ok .non (M.set 0 (.lst (tsW ts ++ [tW t]))) := fun ts t M h => append_ok (by rw [List.length_map]; omega)
  have hpop : fPop 1 (nW (j :: ns)) [] (MM ts (j :: ns) rest) = .ok (.loc (j + 2)) (MM ts ns rest) := by
    have e := pop_ok (n := 1) (ws := nW ns) (y := .loc (j + 2)) (us := []) (M := MM ts (j :: ns) rest)
    rw [← nW_cons] at e
    exact e
  have hg : ∀ ρ, gU [2, 3] (.loc (j + 2)) ρ (MM ts ns rest) = some ((ρ.set 2 (some (.str (kindS f.head)))).set 3 (some (.int ((f.full.length : Nat) + 1)))) := fun ρ => gU_2 2 3 (MM ts ns rest) (j + 2) _ _ ρ h2
  have hs : sAsg (gU [2, 3]) (dMl fPop (dVar 1) dNil) (startR 4 [.loc 0, .loc 1]) (MM ts (j :: ns) rest) = .nx [some (.loc 0), some (.loc 1), some (.str (kindS f.head)), some (.int ((f.full.length : Nat) + 1))] (MM ts ns rest) := by
    unfold sAsg
    simp only [bind_ok', bind_bad', bind_exc', to_ok, to_bad, to_exc, seq_nx, seq_rt, seq_bk, seq_ct, seq_bad, seq_exc, fin_nx, fin_rt, fin_exc, run_eq, sSeq_eq, sNext_eq, sIf_eq, sSet_eq, sAug_eq, sRet_eq, sRetN_eq, sExpr_eq, sFor_eq, loop_nil, gN_eq, var_0, var_s, dC_eq, dBin_eq, dNot_eq, dAnd_eq, dOr_eq, dAndV_eq, dOrV_eq, dNotV_eq, dIf_eq, asBool_bl, toB_eq, dNil_eq, dCons_eq, dCall_eq, dTup_eq, dLst_eq, dImm_eq, dMut_eq, dStill_eq, dRange1_eq, dRange2_eq, add_ii, iadd_ii, sub_ii, and_ii, dNeg_eq, neg_i, cmp_ii, cmp_ss, eq_ii, eq_ss, eq_bb, len_t, len_l, len_f, max2_ii, min2_ii, int_b, dIsT_eq, isT_b, isT_i, isT_s, isT_n, isT_t, isT_l, dSl_eq, oNone_eq, oSome_eq, optI_i, sl_t, sl_l, sl_f, dM1_eq, dM1L_eq, m1k_s, f2_ss, dComp_eq, nox_ok, dYes_eq, dMl_eq, mlk_0, mlk2_0, mlk_1, mlk2_1, pop_ok, clear_ok, isT_loc0, isT_f, len_loc0, seqW_l, seqW_t, seqW_f, seqW_sg, is_nn, is_tn, when_true, nc0, nc1, nc2, nc3, nc4, nc5, nc6, nc7, nc8, ofStr_beq, dPick_eq, ofStr_eq, ixt0, ixt1, ixt2, ixt3, ixl0, ixl1, ixl2, ixl3, dEnumT_eq, enumK_t, pair_tt, dFld_eq, sFld_eq, sFldA_eq, dMeth_eq, List.map_cons, List.map_nil, List.length_cons, List.length_nil, List.replicate_succ, List.replicate_zero, List.cons_append, List.nil_append, List.set_cons_zero, List.set_cons_succ, Nat.reduceSub, Nat.reduceAdd, Nat.zero_add, if_true, Bool.false_eq_true, if_false, decide_true, decide_false, Bool.not_true, Bool.not_false, id, reduceIte, start_eq, List.length_map, Nat.reduceLeDiff, Int.reduceBEq, Bool.or_true, Bool.true_or, Bool.or_false, Bool.false_or, Bool.and_true, Bool.true_and, Bool.and_false, Bool.false_and, line_eq, reduceCtorEq, String.reduceEq, hpop, hg]
  have s1 : (1 : Nat) ≤ 16777216 := by decide
  have s3 : (3 : Nat) = 3 := rfl
  have a1 := ha ts .or
  have ac := ha ts .cls
  have ab := ha ts .bck
  have ad := ha ts .dne
  have ad2 := ha (ts ++ [.or]) .dne
  have e : ∀ t, tsW (ts ++ [t]) = tsW ts ++ [tW t] := fun t => List.map_append
  simp only [tW, e] at a1 ac ab ad ad2
  have k1 : ∀ x y z : W, pickK [Str.ofString "open", Str.ofString "hang", Str.ofString "either"] [x, y, z] (Str.ofString "open") = some x := fun x y z => by simp [pickK]
  have k2 : ∀ x y z : W, pickK [Str.ofString "open", Str.ofString "hang", Str.ofString "either"] [x, y, z] (Str.ofString "hang") = some y := fun x y z => by simp [pickK]
  have k3 : ∀ x y z : W, pickK [Str.ofString "open", Str.ofString "hang", Str.ofString "either"] [x, y, z] (Str.ofString "either") = some z := fun x y z => by simp [pickK]
  have kl : ∀ (x y z : W) (r : Mem → Res W) (M : Mem), pick1 [Str.ofString "open", Str.ofString "hang", Str.ofString "either"] r [x, y, z] M = (r M).bind (pick2 [Str.ofString "open", Str.ofString "hang", Str.ofString "either"] [x, y, z]) := fun _ _ _ _ _ => pick1_ok rfl
  have l0 : ts.length ≤ 1000001 := by omega
  have l1 : (ts ++ [Tk.or]).length ≤ 1000001 := by rw [List.length_append, List.length_singleton]; omega
  rw [TT__law_shutting, run_eq, B__law_shutting, sSeq_eq, hs, seq_nx]
  obtain ⟨hd, full, ps⟩ := f
  cases hd with
  | opn =>
    rw [show shutT ⟨.opn, full, ps⟩ = [.cls] by cases full <;> rfl, MM, MM, e]
    simp only [bind_ok', bind_bad', bind_exc', to_ok, to_bad, to_exc, seq_nx, seq_rt, seq_bk, seq_ct, seq_bad, seq_exc, fin_nx, fin_rt, fin_exc, run_eq, sSeq_eq, sNext_eq, sIf_eq, sSet_eq, sAug_eq, sRet_eq, sRetN_eq, sExpr_eq, sFor_eq, loop_nil, gN_eq, var_0, var_s, dC_eq, dBin_eq, dNot_eq, dAnd_eq, dOr_eq, dAndV_eq, dOrV_eq, dNotV_eq, dIf_eq, asBool_bl, toB_eq, dNil_eq, dCons_eq, dCall_eq, dTup_eq, dLst_eq, dImm_eq, dMut_eq, dStill_eq, dRange1_eq, dRange2_eq, add_ii, iadd_ii, sub_ii, and_ii, dNeg_eq, neg_i, cmp_ii, cmp_ss, eq_ii, eq_ss, eq_bb, len_t, len_l, len_f, max2_ii, min2_ii, int_b, dIsT_eq, isT_b, isT_i, isT_s, isT_n, isT_t, isT_l, dSl_eq, oNone_eq, oSome_eq, optI_i, sl_t, sl_l, sl_f, dM1_eq, dM1L_eq, m1k_s, f2_ss, dComp_eq, nox_ok, dYes_eq, dMl_eq, mlk_0, mlk2_0, mlk_1, mlk2_1, pop_ok, clear_ok, isT_loc0, isT_f, len_loc0, seqW_l, seqW_t, seqW_f, seqW_sg, is_nn, is_tn, when_true, nc0, nc1, nc2, nc3, nc4, nc5, nc6, nc7, nc8, ofStr_beq, dPick_eq, ofStr_eq, ixt0, ixt1, ixt2, ixt3, ixl0, ixl1, ixl2, ixl3, dEnumT_eq, enumK_t, pair_tt, dFld_eq, sFld_eq, sFldA_eq, dMeth_eq, List.map_cons, List.map_nil, List.length_cons, List.length_nil, List.replicate_succ, List.replicate_zero, List.cons_append, List.nil_append, List.set_cons_zero, List.set_cons_succ, Nat.reduceSub, Nat.reduceAdd, Nat.zero_add, if_true, Bool.false_eq_true, if_false, decide_true, decide_false, Bool.not_true, Bool.not_false, id, reduceIte, start_eq, List.length_map, Nat.reduceLeDiff, Int.reduceBEq, Bool.or_true, Bool.true_or, Bool.or_false, Bool.false_or, Bool.and_true, Bool.true_and, Bool.and_false, Bool.false_and, line_eq, reduceCtorEq, String.reduceEq, kindS, pick2_ok (k1 _ _ _), kl, s1, fun M => ac M l0, tW]
  | hng k =>
    rw [show shutT ⟨.hng k, full, ps⟩ = [.bck] by cases full <;> rfl, MM, MM, e]
    simp only [bind_ok', bind_bad', bind_exc', to_ok, to_bad, to_exc, seq_nx, seq_rt, seq_bk, seq_ct, seq_bad, seq_exc, fin_nx, fin_rt, fin_exc, run_eq, sSeq_eq, sNext_eq, sIf_eq, sSet_eq, sAug_eq, sRet_eq, sRetN_eq, sExpr_eq, sFor_eq, loop_nil, gN_eq, var_0, var_s, dC_eq, dBin_eq, dNot_eq, dAnd_eq, dOr_eq, dAndV_eq, dOrV_eq, dNotV_eq, dIf_eq, asBool_bl, toB_eq, dNil_eq, dCons_eq, dCall_eq, dTup_eq, dLst_eq, dImm_eq, dMut_eq, dStill_eq, dRange1_eq, dRange2_eq, add_ii, iadd_ii, sub_ii, and_ii, dNeg_eq, neg_i, cmp_ii, cmp_ss, eq_ii, eq_ss, eq_bb, len_t, len_l, len_f, max2_ii, min2_ii, int_b, dIsT_eq, isT_b, isT_i, isT_s, isT_n, isT_t, isT_l, dSl_eq, oNone_eq, oSome_eq, optI_i, sl_t, sl_l, sl_f, dM1_eq, dM1L_eq, m1k_s, f2_ss, dComp_eq, nox_ok, dYes_eq, dMl_eq, mlk_0, mlk2_0, mlk_1, mlk2_1, pop_ok, clear_ok, isT_loc0, isT_f, len_loc0, seqW_l, seqW_t, seqW_f, seqW_sg, is_nn, is_tn, when_true, nc0, nc1, nc2, nc3, nc4, nc5, nc6, nc7, nc8, ofStr_beq, dPick_eq, ofStr_eq, ixt0, ixt1, ixt2, ixt3, ixl0, ixl1, ixl2, ixl3, dEnumT_eq, enumK_t, pair_tt, dFld_eq, sFld_eq, sFldA_eq, dMeth_eq, List.map_cons, List.map_nil, List.length_cons, List.length_nil, List.replicate_succ, List.replicate_zero, List.cons_append, List.nil_append, List.set_cons_zero, List.set_cons_succ, Nat.reduceSub, Nat.reduceAdd, Nat.zero_add, if_true, Bool.false_eq_true, if_false, decide_true, decide_false, Bool.not_true, Bool.not_false, id, reduceIte, start_eq, List.length_map, Nat.reduceLeDiff, Int.reduceBEq, Bool.or_true, Bool.true_or, Bool.or_false, Bool.false_or, Bool.and_true, Bool.true_and, Bool.and_false, Bool.false_and, line_eq, reduceCtorEq, String.reduceEq, kindS, pick2_ok (k2 _ _ _), kl, s1, fun M => ab M l0, tW]
  | eit =>
    cases full with
    | nil =>
      have e0 : (([] : List (List Pc)).length : Int) + 1 = 1 := rfl
      have e2 : shutT ⟨.eit, [], ps⟩ = [.or, .dne] := rfl
      have e00 : ((0 : Int) + 1 == 1) = true := rfl
      rw [e2, show ts ++ [Tk.or, .dne] = ts ++ [.or] ++ [.dne] by simp, MM, MM, show tsW (ts ++ [Tk.or] ++ [Tk.dne]) = tsW (ts ++ [Tk.or]) ++ [tW .dne] from List.map_append, e]
      simp only [bind_ok', bind_bad', bind_exc', to_ok, to_bad, to_exc, seq_nx, seq_rt, seq_bk, seq_ct, seq_bad, seq_exc, fin_nx, fin_rt, fin_exc, run_eq, sSeq_eq, sNext_eq, sIf_eq, sSet_eq, sAug_eq, sRet_eq, sRetN_eq, sExpr_eq, sFor_eq, loop_nil, gN_eq, var_0, var_s, dC_eq, dBin_eq, dNot_eq, dAnd_eq, dOr_eq, dAndV_eq, dOrV_eq, dNotV_eq, dIf_eq, asBool_bl, toB_eq, dNil_eq, dCons_eq, dCall_eq, dTup_eq, dLst_eq, dImm_eq, dMut_eq, dStill_eq, dRange1_eq, dRange2_eq, add_ii, iadd_ii, sub_ii, and_ii, dNeg_eq, neg_i, cmp_ii, cmp_ss, eq_ii, eq_ss, eq_bb, len_t, len_l, len_f, max2_ii, min2_ii, int_b, dIsT_eq, isT_b, isT_i, isT_s, isT_n, isT_t, isT_l, dSl_eq, oNone_eq, oSome_eq, optI_i, sl_t, sl_l, sl_f, dM1_eq, dM1L_eq, m1k_s, f2_ss, dComp_eq, nox_ok, dYes_eq, dMl_eq, mlk_0, mlk2_0, mlk_1, mlk2_1, pop_ok, clear_ok, isT_loc0, isT_f, len_loc0, seqW_l, seqW_t, seqW_f, seqW_sg, is_nn, is_tn, when_true, nc0, nc1, nc2, nc3, nc4, nc5, nc6, nc7, nc8, ofStr_beq, dPick_eq, ofStr_eq, ixt0, ixt1, ixt2, ixt3, ixl0, ixl1, ixl2, ixl3, dEnumT_eq, enumK_t, pair_tt, dFld_eq, sFld_eq, sFldA_eq, dMeth_eq, List.map_cons, List.map_nil, List.length_cons, List.length_nil, List.replicate_succ, List.replicate_zero, List.cons_append, List.nil_append, List.set_cons_zero, List.set_cons_succ, Nat.reduceSub, Nat.reduceAdd, Nat.zero_add, if_true, Bool.false_eq_true, if_false, decide_true, decide_false, Bool.not_true, Bool.not_false, id, reduceIte, start_eq, List.length_map, Nat.reduceLeDiff, Int.reduceBEq, Bool.or_true, Bool.true_or, Bool.or_false, Bool.false_or, Bool.and_true, Bool.true_and, Bool.and_false, Bool.false_and, line_eq, reduceCtorEq, String.reduceEq, kindS, pick2_ok (k3 _ _ _), kl, s1, fun M => a1 M l0, fun M => ad2 M l1, tW, e0, e00]
    | cons r rs =>
      have e0 : ((((r :: rs).length : Nat) : Int) + 1 == 1) = false := beq_eq_false_iff_ne.mpr (by simp only [List.length_cons]; omega)
      have e0' : (((rs.length + 1 : Nat) : Int) + 1 == 1) = false := e0
      have e2 : shutT ⟨.eit, r :: rs, ps⟩ = [.dne] := rfl
      rw [e2, MM, MM, e]
      simp only [bind_ok', bind_bad', bind_exc', to_ok, to_bad, to_exc, seq_nx, seq_rt, seq_bk, seq_ct, seq_bad, seq_exc, fin_nx, fin_rt, fin_exc, run_eq, sSeq_eq, sNext_eq, sIf_eq, sSet_eq, sAug_eq, sRet_eq, sRetN_eq, sExpr_eq, sFor_eq, loop_nil, gN_eq, var_0, var_s, dC_eq, dBin_eq, dNot_eq, dAnd_eq, dOr_eq, dAndV_eq, dOrV_eq, dNotV_eq, dIf_eq, asBool_bl, toB_eq, dNil_eq, dCons_eq, dCall_eq, dTup_eq, dLst_eq, dImm_eq, dMut_eq, dStill_eq, dRange1_eq, dRange2_eq, add_ii, iadd_ii, sub_ii, and_ii, dNeg_eq, neg_i, cmp_ii, cmp_ss, eq_ii, eq_ss, eq_bb, len_t, len_l, len_f, max2_ii, min2_ii, int_b, dIsT_eq, isT_b, isT_i, isT_s, isT_n, isT_t, isT_l, dSl_eq, oNone_eq, oSome_eq, optI_i, sl_t, sl_l, sl_f, dM1_eq, dM1L_eq, m1k_s, f2_ss, dComp_eq, nox_ok, dYes_eq, dMl_eq, mlk_0, mlk2_0, mlk_1, mlk2_1, pop_ok, clear_ok, isT_loc0, isT_f, len_loc0, seqW_l, seqW_t, seqW_f, seqW_sg, is_nn, is_tn, when_true, nc0, nc1, nc2, nc3, nc4, nc5, nc6, nc7, nc8, ofStr_beq, dPick_eq, ofStr_eq, ixt0, ixt1, ixt2, ixt3, ixl0, ixl1, ixl2, ixl3, dEnumT_eq, enumK_t, pair_tt, dFld_eq, sFld_eq, sFldA_eq, dMeth_eq, List.map_cons, List.map_nil, List.length_cons, List.length_nil, List.replicate_succ, List.replicate_zero, List.cons_append, List.nil_append, List.set_cons_zero, List.set_cons_succ, Nat.reduceSub, Nat.reduceAdd, Nat.zero_add, if_true, Bool.false_eq_true, if_false, decide_true, decide_false, Bool.not_true, Bool.not_false, id, reduceIte, start_eq, List.length_map, Nat.reduceLeDiff, Int.reduceBEq, Bool.or_true, Bool.true_or, Bool.or_false, Bool.false_or, Bool.and_true, Bool.true_and, Bool.and_false, Bool.false_and, line_eq, reduceCtorEq, String.reduceEq, kindS, pick2_ok (k3 _ _ _), kl, s1, fun M => ad M l0, tW, e0']
  | _ => cases h3
/-- where the law stands while it draws tokens -/
def TokAt (c : Int) (ts : List Tk) (ns : List Nat) (rest : Mem) : Prop := ∃ st, run s00 ts = some st ∧ FrOk rest ns st.fs ∧ ts.all okT = true ∧ hiT ts ≤ c
theorem all_snoc {ts : List Tk} {t : Tk} (h : ts.all okT = true) (ht : okT t = true) : (ts ++ [t]).all okT = true := by
  rw [List.all_append, h, List.all_cons, ht]; rfl
theorem TokAt.leaf {c : Int} {ts : List Tk} {ns : List Nat} {rest : Mem} {t : Tk} (h : TokAt c ts ns rest) (hl : isLeaf t = true) (ht : okT t = true) : TokAt c (ts ++ [t]) ns rest := by
  obtain ⟨st, h1, h2, h3, h4⟩ := h
  refine ⟨st.push (leafP t), run_snoc h1 (step_leaf hl st), ?_, all_snoc h3 ht, by rw [hi_snoc h1 (step_leaf hl st), push_len]; have := hi_ge h1; omega⟩
  obtain ⟨fs, base⟩ := st
  cases fs with
  | nil => exact h2
  | cons f fs =>
    cases ns with
    | nil => exact h2.elim
    | cons k ns => exact h2
theorem TokAt.open {c : Int} {ts : List Tk} {ns : List Nat} {rest : Mem} {t : Tk} (h : TokAt c ts ns rest) (hc : (ns.length : Int) < c) (hl : isOpen t = true) (ht : okT t = true) : TokAt c (ts ++ [t]) (rest.length :: ns) (rest ++ [.lst [.str (kindS t), .int 1]]) := by
  obtain ⟨st, h1, h2, h3, h4⟩ := h
  have hst : LP.step st t = some ⟨⟨t, [], []⟩ :: st.fs, st.base⟩ := by cases t <;> first | rfl | cases hl
  refine ⟨⟨⟨t, [], []⟩ :: st.fs, st.base⟩, run_snoc h1 hst, ⟨h2.lt, ?_, hl, .inl rfl, Nat.zero_le _, ?_⟩, all_snoc h3 ht, by rw [hi_snoc h1 hst]; have := h2.len; simp only [List.length_cons]; omega⟩
  · rw [List.getElem?_append_right (Nat.le_refl _), Nat.sub_self]; rfl
  · exact h2.mono fun k hk => List.getElem?_append_left (h2.lt k hk)
theorem TokAt.or {c : Int} {ts : List Tk} {j : Nat} {ns : List Nat} {rest : Mem} {st : St0} (h1 : run s00 ts = some st) (h2 : FrOk rest (j :: ns) st.fs) (h3 : ts.all okT = true) (h4 : hiT ts ≤ c) (hc : canOr st.fs = true) :
    ∃ f fs, st.fs = f :: fs ∧ TokAt c (ts ++ [.or]) (j :: ns) (rest.set j (.lst [.str (kindS f.head), .int ((f.full.length : Nat) + 1 + 1)])) := by
  obtain ⟨fs, base⟩ := st
  cases fs with
  | nil => exact h2.elim
  | cons f fs =>
    obtain ⟨hd, full, ps⟩ := f
    refine ⟨_, _, rfl, ?_⟩
    cases hd with
    | eit =>
      have hlt : full.length < 3 := of_decide_eq_true hc
      have hst : LP.step ⟨⟨.eit, full, ps⟩ :: fs, base⟩ .or = some ⟨⟨.eit, full ++ [ps], []⟩ :: fs, base⟩ := if_pos hlt
      refine ⟨⟨⟨.eit, full ++ [ps], []⟩ :: fs, base⟩, run_snoc h1 hst, ?_, all_snoc h3 rfl, by rw [hi_snoc h1 hst]; have := hi_ge h1; simp only [List.length_cons] at this ⊢; omega⟩
      obtain ⟨a, b, c, d, e, g⟩ := h2
      refine ⟨a, ?_, rfl, .inr rfl, by rw [List.length_append, List.length_singleton]; show full.length + 1 ≤ 3; omega, g.mono fun k hk => List.getElem?_set_ne (Nat.ne_of_gt (a k hk))⟩
      rw [List.getElem?_set_self (List.getElem?_eq_some_iff.mp b).1]
      simp only [List.length_append, List.length_singleton]
      rfl
    | _ => cases hc
theorem TokAt.shut {c : Int} {ts : List Tk} {j : Nat} {ns : List Nat} {rest : Mem} {f : Fr} {fs : List Fr} {base : List Pc} (h1 : run s00 ts = some ⟨f :: fs, base⟩) (h2 : FrOk rest (j :: ns) (f :: fs)) (h3 : ts.all okT = true) (h4 : hiT ts ≤ c) :
    TokAt c (ts ++ shutT f) ns rest ∧ ∃ base', ∃ fs', run s00 (ts ++ shutT f) = some ⟨fs', base'⟩ ∧ fs'.length = fs.length := by
  obtain ⟨hd, full, ps⟩ := f
  obtain ⟨a, b, hopen, d, e, g⟩ := h2
  have key : ∀ p, FrOk rest ns ((⟨fs, base⟩ : St0).push p).fs ∧ ((⟨fs, base⟩ : St0).push p).fs.length = fs.length := fun p => by
    cases fs with
    | nil => exact ⟨g, rfl⟩
    | cons f' fs' =>
      cases ns with
      | nil => exact g.elim
      | cons k ns => exact ⟨g, rfl⟩
  have hge := hi_ge h1
  simp only [List.length_cons] at hge
  have hsn : ∀ (t : Tk) (st' : St0), LP.step ⟨⟨hd, full, ps⟩ :: fs, base⟩ t = some st' → st'.fs.length = fs.length → hiT (ts ++ [t]) ≤ c := fun t st' q1 q2 => by
    rw [hi_snoc h1 q1, q2]; omega
  cases hd with
  | opn =>
    have hf : full = [] := d.elim id fun z => nomatch z
    subst hf
    have r : run s00 (ts ++ [.cls]) = some ((⟨fs, base⟩ : St0).push (.grp ps)) := run_snoc h1 rfl
    exact ⟨⟨_, r, (key _).1, all_snoc h3 rfl, hsn _ _ rfl (key _).2⟩, _, _, r, (key _).2⟩
  | hng n =>
    have hf : full = [] := d.elim id fun z => nomatch z
    subst hf
    have r : run s00 (ts ++ [.bck]) = some ((⟨fs, base⟩ : St0).push (.hng n ps)) := run_snoc h1 rfl
    exact ⟨⟨_, r, (key _).1, all_snoc h3 rfl, hsn _ _ rfl (key _).2⟩, _, _, r, (key _).2⟩
  | eit =>
    cases full with
    | nil =>
      have r1 : run s00 (ts ++ [.or]) = some ⟨⟨.eit, [ps], []⟩ :: fs, base⟩ := run_snoc h1 rfl
      have r : run s00 (ts ++ [.or, .dne]) = some ((⟨fs, base⟩ : St0).push (.eit [ps, []])) := by
        rw [show ts ++ [Tk.or, .dne] = ts ++ [.or] ++ [.dne] by simp]
        exact run_snoc r1 rfl
      refine ⟨⟨_, r, (key _).1, ?_, ?_⟩, _, _, r, (key _).2⟩
      · show (ts ++ [Tk.or, .dne]).all okT = true
        rw [List.all_append, h3]; rfl
      · show hiT (ts ++ [Tk.or, .dne]) ≤ c
        rw [show ts ++ [Tk.or, .dne] = ts ++ [.or] ++ [.dne] by simp, hi_snoc r1 rfl, hi_snoc h1 rfl, push_len]
        simp only [List.length_cons]; omega
    | cons r0 rs =>
      have r : run s00 (ts ++ [.dne]) = some ((⟨fs, base⟩ : St0).push (.eit ((r0 :: rs) ++ [ps]))) := run_snoc h1 rfl
      exact ⟨⟨_, r, (key _).1, all_snoc h3 rfl, hsn _ _ rfl (key _).2⟩, _, _, r, (key _).2⟩
  | _ => cases hopen
theorem shutT_len (f : Fr) : (shutT f).length ≤ 2 := by
  obtain ⟨hd, full, ps⟩ := f
  cases hd <;> cases full <;> exact Nat.le_of_ble_eq_true rfl
theorem tok_turn (ns0 : List Int) (s : W) (hs : IsScr ns0 s) (hl0 : ns0.length ≤ 1000000) (n : Nat) (a b c k : Int) (k0 : 0 ≤ k) (k1 : k ≤ 1000000) (p7 p8 p9 : Option W) (ts : List Tk) (ns : List Nat) (rest : Mem) (hl : ts.length ≤ 100000) (hn : ns.length ≤ 100000) (ht : TokAt c ts ns rest) :
    ∃ m way w9 ts' ns' rest', L__law_tokens_10 (TT (n + 2)) [some s, some (.int a), some (.int b), some (.int c), some (.loc 0), some (.loc 1), some (.int k), p7, p8, p9] (MM ts ns rest) = .nx (RR s a b c k m way w9) (MM ts' ns' rest') ∧ TokAt c ts' ns' rest' ∧ ts'.length ≤ ts.length + 2 ∧ ns'.length ≤ ns.length + 1 := by
  obtain ⟨m, hm, m0, _⟩ := mixedC ns0 s hs k 31 n hl0 k0 k1 (by decide) (by decide)
  obtain ⟨m2, hm2, m20, _⟩ := mixedC ns0 s hs k 32 n hl0 k0 k1 (by decide) (by decide)
  obtain ⟨t, lf, lo, hleaf⟩ := leafC m2 n m20
  have o13 : (0 : Int) < 13 := by decide
  have pre : L__law_tokens_10 (TT (n + 2)) [some s, some (.int a), some (.int b), some (.int c), some (.loc 0), some (.loc 1), some (.int k), p7, p8, p9] (MM ts ns rest) = sIf (L__law_tokens_7 (TT (n + 2))) (L__law_tokens_8 (TT (n + 2))) (L__law_tokens_9 (TT (n + 2))) (RR s a b c k m (m % 13) p9) (MM ts ns rest) := by
    simp only [L__law_tokens_10, sSeq_eq, sSet_eq, dCall_eq, dCons_eq, dNil_eq, dBin_eq, dC_eq, var_0, var_s, bind_ok', to_ok, seq_nx, List.set_cons_zero, List.set_cons_succ, hm, mod_ok o13]
  rw [pre, sIf_eq, t7_ok, to_ok]
  have ht' := ht
  obtain ⟨st, h1, h2, h3, h4⟩ := ht'
  cases c7 : (decide (m % 13 < 4) && decide ((ns.length : Int) < c)) with
  | true =>
    rw [if_pos rfl]
    rw [Bool.and_eq_true, decide_eq_true_eq] at c7
    obtain ⟨t, w9, g1, g2, g3⟩ := tok_open (n + 2) s a b c k m (m % 13) p9 ts ns rest m0 ⟨by omega, c7.1⟩ (by omega) (by omega)
    exact ⟨_, _, w9, _, _, _, g3, ht.open (of_decide_eq_true c7.2) g1 g2, by simp, by simp⟩
  | false =>
    rw [if_neg Bool.false_ne_true, L__law_tokens_9, sIf_eq, t4_ok, to_ok]
    cases c4 : (decide (m % 13 = 4) && decide ((0 : Int) < ns.length)) with
    | true =>
      rw [if_pos rfl]
      rw [Bool.and_eq_true, decide_eq_true_eq, decide_eq_true_eq] at c4
      cases ns with
      | nil => exact absurd c4.2 (by simp)
      | cons j ns =>
        obtain ⟨fs, base⟩ := st
        cases fs with
        | nil => exact h2.elim
        | cons f fs =>
          have hsh := shut_ok (n + 1) ts j ns rest f fs h2 (by omega)
          obtain ⟨q1, _⟩ := TokAt.shut h1 h2 h3 h4
          refine ⟨m, m % 13, p9, ts ++ shutT f, ns, rest, ?_, q1, by rw [List.length_append]; have := shutT_len f; omega, by simp; omega⟩
          simp only [L__law_tokens_5, bind_ok', bind_bad', bind_exc', to_ok, to_bad, to_exc, seq_nx, seq_rt, seq_bk, seq_ct, seq_bad, seq_exc, fin_nx, fin_rt, fin_exc, run_eq, sSeq_eq, sNext_eq, sIf_eq, sSet_eq, sAug_eq, sRet_eq, sRetN_eq, sExpr_eq, sFor_eq, loop_nil, gN_eq, var_0, var_s, dC_eq, dBin_eq, dNot_eq, dAnd_eq, dOr_eq, dAndV_eq, dOrV_eq, dNotV_eq, dIf_eq, asBool_bl, toB_eq, dNil_eq, dCons_eq, dCall_eq, dTup_eq, dLst_eq, dImm_eq, dMut_eq, dStill_eq, dRange1_eq, dRange2_eq, add_ii, iadd_ii, sub_ii, and_ii, dNeg_eq, neg_i, cmp_ii, cmp_ss, eq_ii, eq_ss, eq_bb, len_t, len_l, len_f, max2_ii, min2_ii, int_b, dIsT_eq, isT_b, isT_i, isT_s, isT_n, isT_t, isT_l, dSl_eq, oNone_eq, oSome_eq, optI_i, sl_t, sl_l, sl_f, dM1_eq, dM1L_eq, m1k_s, f2_ss, dComp_eq, nox_ok, dYes_eq, dMl_eq, mlk_0, mlk2_0, mlk_1, mlk2_1, pop_ok, clear_ok, isT_loc0, isT_f, len_loc0, seqW_l, seqW_t, seqW_f, seqW_sg, is_nn, is_tn, when_true, nc0, nc1, nc2, nc3, nc4, nc5, nc6, nc7, nc8, ofStr_beq, dPick_eq, ofStr_eq, ixt0, ixt1, ixt2, ixt3, ixl0, ixl1, ixl2, ixl3, dEnumT_eq, enumK_t, pair_tt, dFld_eq, sFld_eq, sFldA_eq, dMeth_eq, List.map_cons, List.map_nil, List.length_cons, List.length_nil, List.replicate_succ, List.replicate_zero, List.cons_append, List.nil_append, List.set_cons_zero, List.set_cons_succ, Nat.reduceSub, Nat.reduceAdd, Nat.zero_add, if_true, Bool.false_eq_true, if_false, decide_true, decide_false, Bool.not_true, Bool.not_false, id, reduceIte, start_eq, List.length_map, Nat.reduceLeDiff, Int.reduceBEq, Bool.or_true, Bool.true_or, Bool.or_false, Bool.false_or, Bool.and_true, Bool.true_and, Bool.and_false, Bool.false_and, line_eq, reduceCtorEq, String.reduceEq, hsh]
    | false =>
      rw [if_neg Bool.false_ne_true, L__law_tokens_6, sIf_eq, t1_ok _ _ _ _ _ _ _ _ _ _ _ _ _ h2, to_ok]
      cases c1 : (decide (m % 13 < 7) && canOr st.fs) with
      | true =>
        rw [if_pos rfl]
        rw [Bool.and_eq_true] at c1
        cases ns with
        | nil =>
          cases hfs : st.fs with
          | nil => rw [hfs] at c1; exact absurd c1.2 (by simp [canOr])
          | cons f fs => rw [hfs] at h2; exact h2.elim
        | cons j ns =>
          obtain ⟨f, fs, e, q⟩ := TokAt.or h1 h2 h3 h4 c1.2
          rw [e] at h2
          exact ⟨_, _, p9, _, _, _, tok_or (n + 2) s a b c k m (m % 13) p9 ts j ns rest f fs h2 (by omega), q, by simp, by simp⟩
      | false =>
        rw [if_neg Bool.false_ne_true]
        exact ⟨_, _, p9, _, _, _, tok_leaf (n + 2) s a b c k m (m % 13) m2 p9 ts ns rest t (by omega) hm2 hleaf, ht.leaf lf lo, by simp, by simp⟩
theorem tok_while (n : Nat) (ρ : Rho) (s4 : ∀ M, dVar 4 ρ M = .ok (.loc 0) M) (s5 : ∀ M, dVar 5 ρ M = .ok (.loc 1) M) (c : Int) : ∀ (fuel : Nat) (ts : List Tk) (ns : List Nat) (rest : Mem), ns.length < fuel → ts.length + 2 * ns.length ≤ 1000000 → TokAt c ts ns rest →
    ∃ ts' rest', whileD (toB (dBin vGt (dCall fLen (dCons (dVar 5) dNil)) (dC (.int 0)))) (L__law_tokens_11 (TT (n + 1))) fuel ρ (MM ts ns rest) = .nx ρ (MM ts' [] rest') ∧ TokAt c ts' [] rest' ∧ ts'.length ≤ ts.length + 2 * ns.length
  | 0, _, _, _, h, _, _ => absurd h (by omega)
  | fuel + 1, ts, [], rest, _, _, ht => by
    refine ⟨ts, rest, ?_, ht, by simp⟩
    have hl := len_MM1 ts [] rest
    unfold whileD
    have e : toB (dBin vGt (dCall fLen (dCons (dVar 5) dNil)) (dC (.int 0))) ρ (MM ts [] rest) = .ok false (MM ts [] rest) := by
      simp only [toB_eq, dBin_eq, dCall_eq, dCons_eq, dNil_eq, dC_eq, bind_ok', s5, hl]
      rfl
    rw [e]
    rfl
  | fuel + 1, ts, j :: ns, rest, hf, hb, ht => by
    obtain ⟨st, h1, h2, h3, h4⟩ := ht
    obtain ⟨fs, base⟩ := st
    cases fs with
    | nil => exact h2.elim
    | cons f fs =>
      have hsh := shut_ok n ts j ns rest f fs h2 (by simp at hb; omega)
      obtain ⟨q1, _⟩ := TokAt.shut h1 h2 h3 h4
      have sl := shutT_len f
      obtain ⟨ts', rest', r1, r2, r3⟩ := tok_while n ρ s4 s5 c fuel (ts ++ shutT f) ns rest (by simp at hf; omega) (by rw [List.length_append]; simp at hb; omega) q1
      refine ⟨ts', rest', ?_, r2, by rw [List.length_append] at r3; simp; omega⟩
      have hl := len_MM1 ts (j :: ns) rest
      unfold whileD
      have e : toB (dBin vGt (dCall fLen (dCons (dVar 5) dNil)) (dC (.int 0))) ρ (MM ts (j :: ns) rest) = .ok true (MM ts (j :: ns) rest) := by
        simp only [toB_eq, dBin_eq, dCall_eq, dCons_eq, dNil_eq, dC_eq, bind_ok', s5, hl, cmp_ii, asBool_bl]
        rw [decide_eq_true (by simp only [List.length_cons]; omega)]
      have eb : L__law_tokens_11 (TT (n + 1)) ρ (MM ts (j :: ns) rest) = .nx ρ (MM (ts ++ shutT f) ns rest) := by
        simp only [L__law_tokens_11, sExpr_eq, dCall_eq, dCons_eq, dNil_eq, bind_ok', s4, s5, List.length_cons, List.length_nil, if_true, hsh, to_ok, Nat.zero_add, Nat.reduceAdd]
      rw [e, to_ok, if_pos rfl, eb]
      exact r1
theorem tokens_ok (ns0 : List Int) (s : W) (hs : IsScr ns0 s) (hl0 : ns0.length ≤ 1000000) (n : Nat) (a b c : Int) (a0 : 0 ≤ a) (a1 : a ≤ 1000) (b0 : 0 ≤ b) (b1 : b ≤ 1000) (c0 : 0 ≤ c) :
    ∃ ts row, (∀ M, callP 4 (TT (n + 3) .f__law_tokens) [s, .int a, .int b, .int c] M = .ok (.lst (tsW ts)) M) ∧ run s00 ts = some ⟨[], row⟩ ∧ ts.all okT = true ∧ (ts.length : Int) ≤ 4 * b ∧ hiT ts ≤ c := by
  obtain ⟨ρ', M', hlp, ts, ns, rest, p6, p7, p8, p9, e1, e2, e3, e4, e5⟩ := loop_inv (g := gN 6) (s := L__law_tokens_10 (TT (n + 2))) (fun i ρ M => ∃ (ts : List Tk) (ns : List Nat) (rest : Mem) (p6 p7 p8 p9 : Option W), ρ = [some s, some (.int a), some (.int b), some (.int c), some (.loc 0), some (.loc 1), p6, p7, p8, p9] ∧ M = MM ts ns rest ∧ TokAt c ts ns rest ∧ ts.length ≤ 2 * i ∧ ns.length ≤ i)
    (rangeW a b.toNat) 0 [some s, some (.int a), some (.int b), some (.int c), some (.loc 0), some (.loc 1), none, none, none, none] [.lst [], .lst []] ⟨[], [], [], none, none, none, none, rfl, rfl, ⟨s00, rfl, trivial, rfl, c0⟩, by simp, by simp⟩ (by
      rintro i w ρ M hw ⟨ts, ns, rest, p6, p7, p8, p9, rfl, rfl, ht, h1, h2⟩
      obtain ⟨hi, rfl⟩ := rangeW_get hw
      obtain ⟨m, way, w9, ts', ns', rest', g1, g2, g3, g4⟩ := tok_turn ns0 s hs hl0 n a b c (a + i) (by omega) (by omega) p7 p8 p9 ts ns rest (by omega) (by omega) ht
      exact ⟨_, _, _, rfl, .inl g1, ts', ns', rest', _, _, _, _, rfl, rfl, g2, by omega, by omega⟩)
  subst e1 e2
  simp only [rangeW, List.length_map, List.length_range] at e4 e5
  obtain ⟨ts', rest', w1, w2, w3⟩ := tok_while (n + 1) [some s, some (.int a), some (.int b), some (.int c), some (.loc 0), some (.loc 1), p6, p7, p8, p9] (fun _ => rfl) (fun _ => rfl) c FUEL ts ns rest (by unfold FUEL; omega) (by omega) e3
  obtain ⟨⟨fs, row⟩, r1, r2, r3, r4⟩ := w2
  cases fs with
  | cons f fs => exact r2.elim
  | nil =>
    refine ⟨ts', row, fun M => callP_re rfl (by simp [lfs, lf, hs.lf]) (M' := MM ts' [] rest') ?_ (reify_loc (k := 0) rfl (tsW_lf _)), r1, r3, by omega, r4⟩
    have s0 : (0 : Nat) ≤ 16777216 := by decide
    have hsub : a + b - a = b := by omega
    have hr : ∀ M : Mem, rng2 [.int a, .int (a + b)] M = .ok (rangeW a b.toNat) M := fun M => by
      have := rng2_ok (M := M) (i := a) (j := a + b) (by omega) (by omega) (by omega) (by omega)
      rw [hsub] at this
      exact this
    have hw : ∀ ρ M, sWhile (toB (dBin vGt (dCall fLen (dCons (dVar 5) dNil)) (dC (.int 0)))) (L__law_tokens_11 (TT (n + 2))) ρ M = whileD (toB (dBin vGt (dCall fLen (dCons (dVar 5) dNil)) (dC (.int 0)))) (L__law_tokens_11 (TT (n + 2))) FUEL ρ M := fun _ _ => rfl
    rw [TT__law_tokens]
    simp only [B__law_tokens, bind_ok', bind_bad', bind_exc', to_ok, to_bad, to_exc, seq_nx, seq_rt, seq_bk, seq_ct, seq_bad, seq_exc, fin_nx, fin_rt, fin_exc, run_eq, sSeq_eq, sNext_eq, sIf_eq, sSet_eq, sAug_eq, sRet_eq, sRetN_eq, sExpr_eq, sFor_eq, loop_nil, gN_eq, var_0, var_s, dC_eq, dBin_eq, dNot_eq, dAnd_eq, dOr_eq, dAndV_eq, dOrV_eq, dNotV_eq, dIf_eq, asBool_bl, toB_eq, dNil_eq, dCons_eq, dCall_eq, dTup_eq, dLst_eq, dImm_eq, dMut_eq, dStill_eq, dRange1_eq, dRange2_eq, add_ii, iadd_ii, sub_ii, and_ii, dNeg_eq, neg_i, cmp_ii, cmp_ss, eq_ii, eq_ss, eq_bb, len_t, len_l, len_f, max2_ii, min2_ii, int_b, dIsT_eq, isT_b, isT_i, isT_s, isT_n, isT_t, isT_l, dSl_eq, oNone_eq, oSome_eq, optI_i, sl_t, sl_l, sl_f, dM1_eq, dM1L_eq, m1k_s, f2_ss, dComp_eq, nox_ok, dYes_eq, dMl_eq, mlk_0, mlk2_0, mlk_1, mlk2_1, pop_ok, clear_ok, isT_loc0, isT_f, len_loc0, seqW_l, seqW_t, seqW_f, seqW_sg, is_nn, is_tn, when_true, nc0, nc1, nc2, nc3, nc4, nc5, nc6, nc7, nc8, ofStr_beq, dPick_eq, ofStr_eq, ixt0, ixt1, ixt2, ixt3, ixl0, ixl1, ixl2, ixl3, dEnumT_eq, enumK_t, pair_tt, dFld_eq, sFld_eq, sFldA_eq, dMeth_eq, List.map_cons, List.map_nil, List.length_cons, List.length_nil, List.replicate_succ, List.replicate_zero, List.cons_append, List.nil_append, List.set_cons_zero, List.set_cons_succ, Nat.reduceSub, Nat.reduceAdd, Nat.zero_add, if_true, Bool.false_eq_true, if_false, decide_true, decide_false, Bool.not_true, Bool.not_false, id, reduceIte, start_eq, List.length_map, Nat.reduceLeDiff, Int.reduceBEq, Bool.or_true, Bool.true_or, Bool.or_false, Bool.false_or, Bool.and_true, Bool.true_and, Bool.and_false, Bool.false_and, line_eq, reduceCtorEq, String.reduceEq, s0, hr, hlp, hw, w1]

/-! ### the program's tokens -/
def tkK (k : Nat) (rs : List (List Pc)) : List Tk := if k = 0 then tkE rs else tkE1 rs
theorem tkK_cons (k : Nat) (x : List Pc) (rs : List (List Pc)) : tkK k (x :: rs) = (if k = 0 then [] else [Tk.or]) ++ tkR x ++ tkK (k + 1) rs := by
  unfold tkK
  by_cases h : k = 0
  · simp [h, tkE]
  · simp [h, tkE1]
theorem toks_rows (n : Nat) (r p : Option W) : ∀ (rs : List (List Pc)) (k : Nat) (acc : List Tk) (q3 q4 : Option W), acc.length + (tkK k rs).length ≤ 1000000 → (∀ x ∈ rs, ∀ M, callP 1 (TT n .f_tokens) [rW x] M = .ok (.lst (tsW (tkR x))) M) →
    ∃ q3' q4', loopD (gT [3, 4]) (L_tokens_1 (TT n)) (enumW k (rsW rs)) [r, some (.loc 0), p, q3, q4] [.lst (tsW acc)] = .nx [r, some (.loc 0), p, q3', q4'] [.lst (tsW (acc ++ tkK k rs))]
  | [], k, acc, q3, q4, _, _ => ⟨q3, q4, by rw [show acc ++ tkK k [] = acc by unfold tkK; split <;> simp [tkE, tkE1]]; rfl⟩
  | x :: rs, k, acc, q3, q4, hb, h => by
    have hx := h x (List.mem_cons_self ..)
    rw [tkK_cons] at hb ⊢
    simp only [List.length_append] at hb
    have ho : (if k = 0 then [] else [Tk.or]).length ≤ 1 := by split <;> simp
    have ha : ∀ M : Mem, fAppend 0 (tsW acc) [tW .or] M = .ok .non (M.set 0 (.lst (tsW acc ++ [tW .or]))) := fun M => append_ok (by rw [List.length_map]; omega)
    obtain ⟨q3', q4', ih⟩ := toks_rows n r p rs (k + 1) (acc ++ (if k = 0 then [] else [Tk.or]) ++ tkR x) (some (.int (k : Int))) (some (rW x)) (by simp only [List.length_append]; omega) fun y hy => h y (List.mem_cons_of_mem _ hy)
    have e1 : L_tokens_1 (TT n) [r, some (.loc 0), p, some (.int (k : Int)), some (rW x)] [.lst (tsW acc)] = .nx [r, some (.loc 0), p, some (.int (k : Int)), some (rW x)] [.lst (tsW (acc ++ (if k = 0 then [] else [Tk.or]) ++ tkR x))] := by
      by_cases hk : k = 0
      · subst hk
        have he : ∀ M : Mem, fExtend 0 (tsW acc) [.lst (tsW (tkR x))] M = .ok .non (M.set 0 (.lst (tsW acc ++ tsW (tkR x)))) := fun M => extend_ok rfl (by rw [List.length_map, List.length_map]; omega)
        have e0 : tsW (acc ++ (if 0 = 0 then [] else [Tk.or]) ++ tkR x) = tsW acc ++ tsW (tkR x) := by simp [tsW]
        have g0 : decide ((0 : Int) < 0) = false := rfl
        rw [e0]
        simp only [L_tokens_1, bind_ok', bind_bad', bind_exc', to_ok, to_bad, to_exc, seq_nx, seq_rt, seq_bk, seq_ct, seq_bad, seq_exc, fin_nx, fin_rt, fin_exc, run_eq, sSeq_eq, sNext_eq, sIf_eq, sSet_eq, sAug_eq, sRet_eq, sRetN_eq, sExpr_eq, sFor_eq, loop_nil, gN_eq, var_0, var_s, dC_eq, dBin_eq, dNot_eq, dAnd_eq, dOr_eq, dAndV_eq, dOrV_eq, dNotV_eq, dIf_eq, asBool_bl, toB_eq, dNil_eq, dCons_eq, dCall_eq, dTup_eq, dLst_eq, dImm_eq, dMut_eq, dStill_eq, dRange1_eq, dRange2_eq, add_ii, iadd_ii, sub_ii, and_ii, dNeg_eq, neg_i, cmp_ii, cmp_ss, eq_ii, eq_ss, eq_bb, len_t, len_l, len_f, max2_ii, min2_ii, int_b, dIsT_eq, isT_b, isT_i, isT_s, isT_n, isT_t, isT_l, dSl_eq, oNone_eq, oSome_eq, optI_i, sl_t, sl_l, sl_f, dM1_eq, dM1L_eq, m1k_s, f2_ss, dComp_eq, nox_ok, dYes_eq, dMl_eq, mlk_0, mlk2_0, mlk_1, mlk2_1, pop_ok, clear_ok, isT_loc0, isT_f, len_loc0, seqW_l, seqW_t, seqW_f, seqW_sg, is_nn, is_tn, when_true, nc0, nc1, nc2, nc3, nc4, nc5, nc6, nc7, nc8, ofStr_beq, dPick_eq, ofStr_eq, ixt0, ixt1, ixt2, ixt3, ixl0, ixl1, ixl2, ixl3, dEnumT_eq, enumK_t, pair_tt, dFld_eq, sFld_eq, sFldA_eq, dMeth_eq, List.map_cons, List.map_nil, List.length_cons, List.length_nil, List.replicate_succ, List.replicate_zero, List.cons_append, List.nil_append, List.set_cons_zero, List.set_cons_succ, Nat.reduceSub, Nat.reduceAdd, Nat.zero_add, if_true, Bool.false_eq_true, if_false, decide_true, decide_false, Bool.not_true, Bool.not_false, id, reduceIte, start_eq, List.length_map, Nat.reduceLeDiff, Int.reduceBEq, Bool.or_true, Bool.true_or, Bool.or_false, Bool.false_or, Bool.and_true, Bool.true_and, Bool.and_false, Bool.false_and, line_eq, reduceCtorEq, String.reduceEq, hx, he, vGt, g0]
      · have e0 : tsW (acc ++ (if k = 0 then [] else [Tk.or]) ++ tkR x) = tsW acc ++ [tW .or] ++ tsW (tkR x) := by rw [if_neg hk]; simp [tsW]
        have he : ∀ M : Mem, fExtend 0 (tsW acc ++ [tW .or]) [.lst (tsW (tkR x))] M = .ok .non (M.set 0 (.lst (tsW acc ++ [tW .or] ++ tsW (tkR x)))) := fun M => extend_ok rfl (by rw [if_neg hk] at hb; simp only [List.length_append, List.length_map, List.length_singleton] at hb ⊢; omega)
        have g0 : decide ((0 : Int) < (k : Int)) = true := decide_eq_true (by omega)
        rw [e0]
        simp only [tW] at ha he ⊢
        simp only [L_tokens_1, bind_ok', bind_bad', bind_exc', to_ok, to_bad, to_exc, seq_nx, seq_rt, seq_bk, seq_ct, seq_bad, seq_exc, fin_nx, fin_rt, fin_exc, run_eq, sSeq_eq, sNext_eq, sIf_eq, sSet_eq, sAug_eq, sRet_eq, sRetN_eq, sExpr_eq, sFor_eq, loop_nil, gN_eq, var_0, var_s, dC_eq, dBin_eq, dNot_eq, dAnd_eq, dOr_eq, dAndV_eq, dOrV_eq, dNotV_eq, dIf_eq, asBool_bl, toB_eq, dNil_eq, dCons_eq, dCall_eq, dTup_eq, dLst_eq, dImm_eq, dMut_eq, dStill_eq, dRange1_eq, dRange2_eq, add_ii, iadd_ii, sub_ii, and_ii, dNeg_eq, neg_i, cmp_ii, cmp_ss, eq_ii, eq_ss, eq_bb, len_t, len_l, len_f, max2_ii, min2_ii, int_b, dIsT_eq, isT_b, isT_i, isT_s, isT_n, isT_t, isT_l, dSl_eq, oNone_eq, oSome_eq, optI_i, sl_t, sl_l, sl_f, dM1_eq, dM1L_eq, m1k_s, f2_ss, dComp_eq, nox_ok, dYes_eq, dMl_eq, mlk_0, mlk2_0, mlk_1, mlk2_1, pop_ok, clear_ok, isT_loc0, isT_f, len_loc0, seqW_l, seqW_t, seqW_f, seqW_sg, is_nn, is_tn, when_true, nc0, nc1, nc2, nc3, nc4, nc5, nc6, nc7, nc8, ofStr_beq, dPick_eq, ofStr_eq, ixt0, ixt1, ixt2, ixt3, ixl0, ixl1, ixl2, ixl3, dEnumT_eq, enumK_t, pair_tt, dFld_eq, sFld_eq, sFldA_eq, dMeth_eq, List.map_cons, List.map_nil, List.length_cons, List.length_nil, List.replicate_succ, List.replicate_zero, List.cons_append, List.nil_append, List.set_cons_zero, List.set_cons_succ, Nat.reduceSub, Nat.reduceAdd, Nat.zero_add, if_true, Bool.false_eq_true, if_false, decide_true, decide_false, Bool.not_true, Bool.not_false, id, reduceIte, start_eq, List.length_map, Nat.reduceLeDiff, Int.reduceBEq, Bool.or_true, Bool.true_or, Bool.or_false, Bool.false_or, Bool.and_true, Bool.true_and, Bool.and_false, Bool.false_and, line_eq, reduceCtorEq, String.reduceEq, hx, ha, he, vGt, g0]
    refine ⟨q3', q4', ?_⟩
    show loopD _ _ (W.tup [.int (k : Int), rW x] :: enumW (k + 1) (rsW rs)) _ _ = _
    rw [loop_nx rfl e1, ih]
    simp only [List.append_assoc]
theorem toks_turn (n : Nat) (r q3 q4 : Option W) (p : Pc) (acc : List Tk) (hb : acc.length + (tkP p).length ≤ 1000000) (h : ∀ x ∈ rowsIn p, ∀ M, callP 1 (TT n .f_tokens) [rW x] M = .ok (.lst (tsW (tkR x))) M) :
    ∃ q3' q4', L_tokens_2 (TT n) [r, some (.loc 0), some (pW p), q3, q4] [.lst (tsW acc)] = .nx [r, some (.loc 0), some (pW p), q3', q4'] [.lst (tsW (acc ++ tkP p))] := by
  have ha : ∀ (acc : List Tk) (w : W) (M : Mem), acc.length < 1000001 → fAppend 0 (tsW acc) [w] M = .ok .non (M.set 0 (.lst (tsW acc ++ [w]))) := fun acc w M h => append_ok (by rw [List.length_map]; omega)
  have hx : ∀ (acc ts : List Tk) (M : Mem), acc.length + ts.length ≤ 1000000 → fExtend 0 (tsW acc) [.lst (tsW ts)] M = .ok .non (M.set 0 (.lst (tsW (acc ++ ts)))) := fun acc ts M h => by
    rw [extend_ok (us := tsW ts) rfl (by rw [List.length_map, List.length_map]; omega)]
    simp [tsW]
  have e1 : ∀ t : Tk, tsW (acc ++ [t]) = tsW acc ++ [tW t] := fun t => by simp [tsW]
  have l1 : acc.length < 1000001 := by omega
  cases p with
  | word w => refine ⟨q3, q4, ?_⟩; have hh := fun M => ha acc (pW (.word w)) M l1; simp only [tkP, e1, tW, pW] at hh ⊢; simp only [L_tokens_2, bind_ok', bind_bad', bind_exc', to_ok, to_bad, to_exc, seq_nx, seq_rt, seq_bk, seq_ct, seq_bad, seq_exc, fin_nx, fin_rt, fin_exc, run_eq, sSeq_eq, sNext_eq, sIf_eq, sSet_eq, sAug_eq, sRet_eq, sRetN_eq, sExpr_eq, sFor_eq, loop_nil, gN_eq, var_0, var_s, dC_eq, dBin_eq, dNot_eq, dAnd_eq, dOr_eq, dAndV_eq, dOrV_eq, dNotV_eq, dIf_eq, asBool_bl, toB_eq, dNil_eq, dCons_eq, dCall_eq, dTup_eq, dLst_eq, dImm_eq, dMut_eq, dStill_eq, dRange1_eq, dRange2_eq, add_ii, iadd_ii, sub_ii, and_ii, dNeg_eq, neg_i, cmp_ii, cmp_ss, eq_ii, eq_ss, eq_bb, len_t, len_l, len_f, max2_ii, min2_ii, int_b, dIsT_eq, isT_b, isT_i, isT_s, isT_n, isT_t, isT_l, dSl_eq, oNone_eq, oSome_eq, optI_i, sl_t, sl_l, sl_f, dM1_eq, dM1L_eq, m1k_s, f2_ss, dComp_eq, nox_ok, dYes_eq, dMl_eq, mlk_0, mlk2_0, mlk_1, mlk2_1, pop_ok, clear_ok, isT_loc0, isT_f, len_loc0, seqW_l, seqW_t, seqW_f, seqW_sg, is_nn, is_tn, when_true, nc0, nc1, nc2, nc3, nc4, nc5, nc6, nc7, nc8, ofStr_beq, dPick_eq, ofStr_eq, ixt0, ixt1, ixt2, ixt3, ixl0, ixl1, ixl2, ixl3, dEnumT_eq, enumK_t, pair_tt, dFld_eq, sFld_eq, sFldA_eq, dMeth_eq, List.map_cons, List.map_nil, List.length_cons, List.length_nil, List.replicate_succ, List.replicate_zero, List.cons_append, List.nil_append, List.set_cons_zero, List.set_cons_succ, Nat.reduceSub, Nat.reduceAdd, Nat.zero_add, if_true, Bool.false_eq_true, if_false, decide_true, decide_false, Bool.not_true, Bool.not_false, id, reduceIte, start_eq, List.length_map, Nat.reduceLeDiff, Int.reduceBEq, Bool.or_true, Bool.true_or, Bool.or_false, Bool.false_or, Bool.and_true, Bool.true_and, Bool.and_false, Bool.false_and, line_eq, reduceCtorEq, String.reduceEq, hh]
  | gap w => refine ⟨q3, q4, ?_⟩; have hh := fun M => ha acc (pW (.gap w)) M l1; simp only [tkP, e1, tW, pW] at hh ⊢; simp only [L_tokens_2, bind_ok', bind_bad', bind_exc', to_ok, to_bad, to_exc, seq_nx, seq_rt, seq_bk, seq_ct, seq_bad, seq_exc, fin_nx, fin_rt, fin_exc, run_eq, sSeq_eq, sNext_eq, sIf_eq, sSet_eq, sAug_eq, sRet_eq, sRetN_eq, sExpr_eq, sFor_eq, loop_nil, gN_eq, var_0, var_s, dC_eq, dBin_eq, dNot_eq, dAnd_eq, dOr_eq, dAndV_eq, dOrV_eq, dNotV_eq, dIf_eq, asBool_bl, toB_eq, dNil_eq, dCons_eq, dCall_eq, dTup_eq, dLst_eq, dImm_eq, dMut_eq, dStill_eq, dRange1_eq, dRange2_eq, add_ii, iadd_ii, sub_ii, and_ii, dNeg_eq, neg_i, cmp_ii, cmp_ss, eq_ii, eq_ss, eq_bb, len_t, len_l, len_f, max2_ii, min2_ii, int_b, dIsT_eq, isT_b, isT_i, isT_s, isT_n, isT_t, isT_l, dSl_eq, oNone_eq, oSome_eq, optI_i, sl_t, sl_l, sl_f, dM1_eq, dM1L_eq, m1k_s, f2_ss, dComp_eq, nox_ok, dYes_eq, dMl_eq, mlk_0, mlk2_0, mlk_1, mlk2_1, pop_ok, clear_ok, isT_loc0, isT_f, len_loc0, seqW_l, seqW_t, seqW_f, seqW_sg, is_nn, is_tn, when_true, nc0, nc1, nc2, nc3, nc4, nc5, nc6, nc7, nc8, ofStr_beq, dPick_eq, ofStr_eq, ixt0, ixt1, ixt2, ixt3, ixl0, ixl1, ixl2, ixl3, dEnumT_eq, enumK_t, pair_tt, dFld_eq, sFld_eq, sFldA_eq, dMeth_eq, List.map_cons, List.map_nil, List.length_cons, List.length_nil, List.replicate_succ, List.replicate_zero, List.cons_append, List.nil_append, List.set_cons_zero, List.set_cons_succ, Nat.reduceSub, Nat.reduceAdd, Nat.zero_add, if_true, Bool.false_eq_true, if_false, decide_true, decide_false, Bool.not_true, Bool.not_false, id, reduceIte, start_eq, List.length_map, Nat.reduceLeDiff, Int.reduceBEq, Bool.or_true, Bool.true_or, Bool.or_false, Bool.false_or, Bool.and_true, Bool.true_and, Bool.and_false, Bool.false_and, line_eq, reduceCtorEq, String.reduceEq, hh]
  | fin => refine ⟨q3, q4, ?_⟩; have hh := fun M => ha acc (pW .fin) M l1; simp only [tkP, e1, tW, pW] at hh ⊢; simp only [L_tokens_2, bind_ok', bind_bad', bind_exc', to_ok, to_bad, to_exc, seq_nx, seq_rt, seq_bk, seq_ct, seq_bad, seq_exc, fin_nx, fin_rt, fin_exc, run_eq, sSeq_eq, sNext_eq, sIf_eq, sSet_eq, sAug_eq, sRet_eq, sRetN_eq, sExpr_eq, sFor_eq, loop_nil, gN_eq, var_0, var_s, dC_eq, dBin_eq, dNot_eq, dAnd_eq, dOr_eq, dAndV_eq, dOrV_eq, dNotV_eq, dIf_eq, asBool_bl, toB_eq, dNil_eq, dCons_eq, dCall_eq, dTup_eq, dLst_eq, dImm_eq, dMut_eq, dStill_eq, dRange1_eq, dRange2_eq, add_ii, iadd_ii, sub_ii, and_ii, dNeg_eq, neg_i, cmp_ii, cmp_ss, eq_ii, eq_ss, eq_bb, len_t, len_l, len_f, max2_ii, min2_ii, int_b, dIsT_eq, isT_b, isT_i, isT_s, isT_n, isT_t, isT_l, dSl_eq, oNone_eq, oSome_eq, optI_i, sl_t, sl_l, sl_f, dM1_eq, dM1L_eq, m1k_s, f2_ss, dComp_eq, nox_ok, dYes_eq, dMl_eq, mlk_0, mlk2_0, mlk_1, mlk2_1, pop_ok, clear_ok, isT_loc0, isT_f, len_loc0, seqW_l, seqW_t, seqW_f, seqW_sg, is_nn, is_tn, when_true, nc0, nc1, nc2, nc3, nc4, nc5, nc6, nc7, nc8, ofStr_beq, dPick_eq, ofStr_eq, ixt0, ixt1, ixt2, ixt3, ixl0, ixl1, ixl2, ixl3, dEnumT_eq, enumK_t, pair_tt, dFld_eq, sFld_eq, sFldA_eq, dMeth_eq, List.map_cons, List.map_nil, List.length_cons, List.length_nil, List.replicate_succ, List.replicate_zero, List.cons_append, List.nil_append, List.set_cons_zero, List.set_cons_succ, Nat.reduceSub, Nat.reduceAdd, Nat.zero_add, if_true, Bool.false_eq_true, if_false, decide_true, decide_false, Bool.not_true, Bool.not_false, id, reduceIte, start_eq, List.length_map, Nat.reduceLeDiff, Int.reduceBEq, Bool.or_true, Bool.true_or, Bool.or_false, Bool.false_or, Bool.and_true, Bool.true_and, Bool.and_false, Bool.false_and, line_eq, reduceCtorEq, String.reduceEq, hh]
  | stop w => refine ⟨q3, q4, ?_⟩; have hh := fun M => ha acc (pW (.stop w)) M l1; simp only [tkP, e1, tW, pW] at hh ⊢; simp only [L_tokens_2, bind_ok', bind_bad', bind_exc', to_ok, to_bad, to_exc, seq_nx, seq_rt, seq_bk, seq_ct, seq_bad, seq_exc, fin_nx, fin_rt, fin_exc, run_eq, sSeq_eq, sNext_eq, sIf_eq, sSet_eq, sAug_eq, sRet_eq, sRetN_eq, sExpr_eq, sFor_eq, loop_nil, gN_eq, var_0, var_s, dC_eq, dBin_eq, dNot_eq, dAnd_eq, dOr_eq, dAndV_eq, dOrV_eq, dNotV_eq, dIf_eq, asBool_bl, toB_eq, dNil_eq, dCons_eq, dCall_eq, dTup_eq, dLst_eq, dImm_eq, dMut_eq, dStill_eq, dRange1_eq, dRange2_eq, add_ii, iadd_ii, sub_ii, and_ii, dNeg_eq, neg_i, cmp_ii, cmp_ss, eq_ii, eq_ss, eq_bb, len_t, len_l, len_f, max2_ii, min2_ii, int_b, dIsT_eq, isT_b, isT_i, isT_s, isT_n, isT_t, isT_l, dSl_eq, oNone_eq, oSome_eq, optI_i, sl_t, sl_l, sl_f, dM1_eq, dM1L_eq, m1k_s, f2_ss, dComp_eq, nox_ok, dYes_eq, dMl_eq, mlk_0, mlk2_0, mlk_1, mlk2_1, pop_ok, clear_ok, isT_loc0, isT_f, len_loc0, seqW_l, seqW_t, seqW_f, seqW_sg, is_nn, is_tn, when_true, nc0, nc1, nc2, nc3, nc4, nc5, nc6, nc7, nc8, ofStr_beq, dPick_eq, ofStr_eq, ixt0, ixt1, ixt2, ixt3, ixl0, ixl1, ixl2, ixl3, dEnumT_eq, enumK_t, pair_tt, dFld_eq, sFld_eq, sFldA_eq, dMeth_eq, List.map_cons, List.map_nil, List.length_cons, List.length_nil, List.replicate_succ, List.replicate_zero, List.cons_append, List.nil_append, List.set_cons_zero, List.set_cons_succ, Nat.reduceSub, Nat.reduceAdd, Nat.zero_add, if_true, Bool.false_eq_true, if_false, decide_true, decide_false, Bool.not_true, Bool.not_false, id, reduceIte, start_eq, List.length_map, Nat.reduceLeDiff, Int.reduceBEq, Bool.or_true, Bool.true_or, Bool.or_false, Bool.false_or, Bool.and_true, Bool.true_and, Bool.and_false, Bool.false_and, line_eq, reduceCtorEq, String.reduceEq, hh]
  | grp rr =>
    refine ⟨q3, q4, ?_⟩
    have hr := h rr (List.mem_singleton.mpr rfl)
    have hl : (tkR rr).length ≤ 1000000 := by simp only [tkP, List.length_append, List.length_cons] at hb; omega
    have v1 : ∀ M, vAdd (.lst [tW .opn]) (.lst (tsW (tkR rr))) M = .ok (.lst (tW .opn :: tsW (tkR rr))) M := fun M => add_ll (by simp only [List.length_map, List.length_singleton]; omega)
    have v2 : ∀ M, vAdd (.lst (tW .opn :: tsW (tkR rr))) (.lst [tW .cls]) M = .ok (.lst (tsW (tkP (.grp rr)))) M := fun M => by
      rw [add_ll (by simp only [List.length_map, List.length_cons, List.length_nil]; omega)]
      simp [tkP, tsW]
    have hh := fun M => hx acc (tkP (.grp rr)) M hb
    simp only [pW]
    simp only [tW] at v1 v2
    simp only [L_tokens_2, bind_ok', bind_bad', bind_exc', to_ok, to_bad, to_exc, seq_nx, seq_rt, seq_bk, seq_ct, seq_bad, seq_exc, fin_nx, fin_rt, fin_exc, run_eq, sSeq_eq, sNext_eq, sIf_eq, sSet_eq, sAug_eq, sRet_eq, sRetN_eq, sExpr_eq, sFor_eq, loop_nil, gN_eq, var_0, var_s, dC_eq, dBin_eq, dNot_eq, dAnd_eq, dOr_eq, dAndV_eq, dOrV_eq, dNotV_eq, dIf_eq, asBool_bl, toB_eq, dNil_eq, dCons_eq, dCall_eq, dTup_eq, dLst_eq, dImm_eq, dMut_eq, dStill_eq, dRange1_eq, dRange2_eq, add_ii, iadd_ii, sub_ii, and_ii, dNeg_eq, neg_i, cmp_ii, cmp_ss, eq_ii, eq_ss, eq_bb, len_t, len_l, len_f, max2_ii, min2_ii, int_b, dIsT_eq, isT_b, isT_i, isT_s, isT_n, isT_t, isT_l, dSl_eq, oNone_eq, oSome_eq, optI_i, sl_t, sl_l, sl_f, dM1_eq, dM1L_eq, m1k_s, f2_ss, dComp_eq, nox_ok, dYes_eq, dMl_eq, mlk_0, mlk2_0, mlk_1, mlk2_1, pop_ok, clear_ok, isT_loc0, isT_f, len_loc0, seqW_l, seqW_t, seqW_f, seqW_sg, is_nn, is_tn, when_true, nc0, nc1, nc2, nc3, nc4, nc5, nc6, nc7, nc8, ofStr_beq, dPick_eq, ofStr_eq, ixt0, ixt1, ixt2, ixt3, ixl0, ixl1, ixl2, ixl3, dEnumT_eq, enumK_t, pair_tt, dFld_eq, sFld_eq, sFldA_eq, dMeth_eq, List.map_cons, List.map_nil, List.length_cons, List.length_nil, List.replicate_succ, List.replicate_zero, List.cons_append, List.nil_append, List.set_cons_zero, List.set_cons_succ, Nat.reduceSub, Nat.reduceAdd, Nat.zero_add, if_true, Bool.false_eq_true, if_false, decide_true, decide_false, Bool.not_true, Bool.not_false, id, reduceIte, start_eq, List.length_map, Nat.reduceLeDiff, Int.reduceBEq, Bool.or_true, Bool.true_or, Bool.or_false, Bool.false_or, Bool.and_true, Bool.true_and, Bool.and_false, Bool.false_and, line_eq, reduceCtorEq, String.reduceEq, hr, v1, v2, hh]
  | hng m rr =>
    refine ⟨q3, q4, ?_⟩
    have hr := h rr (List.mem_singleton.mpr rfl)
    have hl : (tkR rr).length ≤ 1000000 := by simp only [tkP, List.length_append, List.length_cons] at hb; omega
    have v1 : ∀ M, vAdd (.lst [tW (.hng m)]) (.lst (tsW (tkR rr))) M = .ok (.lst (tW (.hng m) :: tsW (tkR rr))) M := fun M => add_ll (by simp only [List.length_map, List.length_singleton]; omega)
    have v2 : ∀ M, vAdd (.lst (tW (.hng m) :: tsW (tkR rr))) (.lst [tW .bck]) M = .ok (.lst (tsW (tkP (.hng m rr)))) M := fun M => by
      rw [add_ll (by simp only [List.length_map, List.length_cons, List.length_nil]; omega)]
      simp [tkP, tsW]
    have hh := fun M => hx acc (tkP (.hng m rr)) M hb
    simp only [pW]
    simp only [tW] at v1 v2
    simp only [L_tokens_2, bind_ok', bind_bad', bind_exc', to_ok, to_bad, to_exc, seq_nx, seq_rt, seq_bk, seq_ct, seq_bad, seq_exc, fin_nx, fin_rt, fin_exc, run_eq, sSeq_eq, sNext_eq, sIf_eq, sSet_eq, sAug_eq, sRet_eq, sRetN_eq, sExpr_eq, sFor_eq, loop_nil, gN_eq, var_0, var_s, dC_eq, dBin_eq, dNot_eq, dAnd_eq, dOr_eq, dAndV_eq, dOrV_eq, dNotV_eq, dIf_eq, asBool_bl, toB_eq, dNil_eq, dCons_eq, dCall_eq, dTup_eq, dLst_eq, dImm_eq, dMut_eq, dStill_eq, dRange1_eq, dRange2_eq, add_ii, iadd_ii, sub_ii, and_ii, dNeg_eq, neg_i, cmp_ii, cmp_ss, eq_ii, eq_ss, eq_bb, len_t, len_l, len_f, max2_ii, min2_ii, int_b, dIsT_eq, isT_b, isT_i, isT_s, isT_n, isT_t, isT_l, dSl_eq, oNone_eq, oSome_eq, optI_i, sl_t, sl_l, sl_f, dM1_eq, dM1L_eq, m1k_s, f2_ss, dComp_eq, nox_ok, dYes_eq, dMl_eq, mlk_0, mlk2_0, mlk_1, mlk2_1, pop_ok, clear_ok, isT_loc0, isT_f, len_loc0, seqW_l, seqW_t, seqW_f, seqW_sg, is_nn, is_tn, when_true, nc0, nc1, nc2, nc3, nc4, nc5, nc6, nc7, nc8, ofStr_beq, dPick_eq, ofStr_eq, ixt0, ixt1, ixt2, ixt3, ixl0, ixl1, ixl2, ixl3, dEnumT_eq, enumK_t, pair_tt, dFld_eq, sFld_eq, sFldA_eq, dMeth_eq, List.map_cons, List.map_nil, List.length_cons, List.length_nil, List.replicate_succ, List.replicate_zero, List.cons_append, List.nil_append, List.set_cons_zero, List.set_cons_succ, Nat.reduceSub, Nat.reduceAdd, Nat.zero_add, if_true, Bool.false_eq_true, if_false, decide_true, decide_false, Bool.not_true, Bool.not_false, id, reduceIte, start_eq, List.length_map, Nat.reduceLeDiff, Int.reduceBEq, Bool.or_true, Bool.true_or, Bool.or_false, Bool.false_or, Bool.and_true, Bool.true_and, Bool.and_false, Bool.false_and, line_eq, reduceCtorEq, String.reduceEq, hr, v1, v2, hh]
  | eit rs =>
    simp only [tkP, List.length_append, List.length_cons, List.length_nil] at hb
    obtain ⟨q3', q4', lp⟩ := toks_rows n r (some (pW (.eit rs))) rs 0 (acc ++ [.eit]) q3 q4 (by simp only [tkK, if_true, List.length_append, List.length_singleton]; omega) h
    refine ⟨q3', q4', ?_⟩
    have h1 := fun M => ha acc (tW .eit) M l1
    rw [← e1] at h1
    have e2 : acc ++ [Tk.eit] ++ tkK 0 rs = acc ++ .eit :: tkE rs := by simp [tkK]
    rw [e2] at lp
    have h2 := fun M => ha (acc ++ .eit :: tkE rs) (tW .dne) M (by simp only [List.length_append, List.length_cons]; omega)
    have e3 : tsW (acc ++ tkP (.eit rs)) = tsW (acc ++ .eit :: tkE rs) ++ [tW .dne] := by simp [tkP, tsW]
    rw [e3]
    simp only [pW, tW] at lp h1 h2 ⊢
    simp only [L_tokens_2, bind_ok', bind_bad', bind_exc', to_ok, to_bad, to_exc, seq_nx, seq_rt, seq_bk, seq_ct, seq_bad, seq_exc, fin_nx, fin_rt, fin_exc, run_eq, sSeq_eq, sNext_eq, sIf_eq, sSet_eq, sAug_eq, sRet_eq, sRetN_eq, sExpr_eq, sFor_eq, loop_nil, gN_eq, var_0, var_s, dC_eq, dBin_eq, dNot_eq, dAnd_eq, dOr_eq, dAndV_eq, dOrV_eq, dNotV_eq, dIf_eq, asBool_bl, toB_eq, dNil_eq, dCons_eq, dCall_eq, dTup_eq, dLst_eq, dImm_eq, dMut_eq, dStill_eq, dRange1_eq, dRange2_eq, add_ii, iadd_ii, sub_ii, and_ii, dNeg_eq, neg_i, cmp_ii, cmp_ss, eq_ii, eq_ss, eq_bb, len_t, len_l, len_f, max2_ii, min2_ii, int_b, dIsT_eq, isT_b, isT_i, isT_s, isT_n, isT_t, isT_l, dSl_eq, oNone_eq, oSome_eq, optI_i, sl_t, sl_l, sl_f, dM1_eq, dM1L_eq, m1k_s, f2_ss, dComp_eq, nox_ok, dYes_eq, dMl_eq, mlk_0, mlk2_0, mlk_1, mlk2_1, pop_ok, clear_ok, isT_loc0, isT_f, len_loc0, seqW_l, seqW_t, seqW_f, seqW_sg, is_nn, is_tn, when_true, nc0, nc1, nc2, nc3, nc4, nc5, nc6, nc7, nc8, ofStr_beq, dPick_eq, ofStr_eq, ixt0, ixt1, ixt2, ixt3, ixl0, ixl1, ixl2, ixl3, dEnumT_eq, enumK_t, pair_tt, dFld_eq, sFld_eq, sFldA_eq, dMeth_eq, List.map_cons, List.map_nil, List.length_cons, List.length_nil, List.replicate_succ, List.replicate_zero, List.cons_append, List.nil_append, List.set_cons_zero, List.set_cons_succ, Nat.reduceSub, Nat.reduceAdd, Nat.zero_add, if_true, Bool.false_eq_true, if_false, decide_true, decide_false, Bool.not_true, Bool.not_false, id, reduceIte, start_eq, List.length_map, Nat.reduceLeDiff, Int.reduceBEq, Bool.or_true, Bool.true_or, Bool.or_false, Bool.false_or, Bool.and_true, Bool.true_and, Bool.and_false, Bool.false_and, line_eq, reduceCtorEq, String.reduceEq, h1, lp, h2]
theorem toks_pcs (n : Nat) (r : Option W) : ∀ (ps : List Pc) (acc : List Tk) (q q3 q4 : Option W), acc.length + (tkR ps).length ≤ 1000000 → (∀ p ∈ ps, ∀ x ∈ rowsIn p, ∀ M, callP 1 (TT n .f_tokens) [rW x] M = .ok (.lst (tsW (tkR x))) M) →
    ∃ q' q3' q4', loopD (gN 2) (L_tokens_2 (TT n)) (psW ps) [r, some (.loc 0), q, q3, q4] [.lst (tsW acc)] = .nx [r, some (.loc 0), q', q3', q4'] [.lst (tsW (acc ++ tkR ps))]
  | [], acc, q, q3, q4, _, _ => ⟨q, q3, q4, by rw [show acc ++ tkR [] = acc by simp [tkR]]; rfl⟩
  | p :: ps, acc, q, q3, q4, hb, h => by
    simp only [tkR, List.length_append] at hb
    obtain ⟨qa, qb, e1⟩ := toks_turn n r q3 q4 p acc (by omega) (h p (List.mem_cons_self ..))
    obtain ⟨qc, qd, qe, ih⟩ := toks_pcs n r ps (acc ++ tkP p) (some (pW p)) qa qb (by rw [List.length_append]; omega) fun y hy => h y (List.mem_cons_of_mem _ hy)
    refine ⟨qc, qd, qe, ?_⟩
    show loopD _ _ (pW p :: psW ps) _ _ = _
    rw [loop_nx rfl e1, ih]
    rw [show acc ++ tkP p ++ tkR ps = acc ++ tkR (p :: ps) by simp [tkR]]
theorem tkE1_le {x : List Pc} : ∀ {rs : List (List Pc)}, x ∈ rs → (tkR x).length ≤ (tkE1 rs).length
  | y :: rs, h => by
    simp only [tkE1, List.length_append, List.length_cons]
    rcases List.mem_cons.mp h with e | e
    · subst e; omega
    · have := tkE1_le e; omega
theorem tkP_le {p : Pc} {x : List Pc} (h : x ∈ rowsIn p) : (tkR x).length ≤ (tkP p).length := by
  cases p with
  | grp r => rw [List.mem_singleton.mp h]; simp only [tkP, List.length_append, List.length_cons]; omega
  | hng m r => rw [List.mem_singleton.mp h]; simp only [tkP, List.length_append, List.length_cons]; omega
  | eit rs =>
    have h : x ∈ rs := h
    simp only [tkP, List.length_append, List.length_cons]
    cases rs with
    | nil => cases h
    | cons y rs =>
      simp only [tkE, List.length_append]
      rcases List.mem_cons.mp h with e | e
      · subst e; omega
      · have := tkE1_le e; omega
  | _ => cases h
theorem tkR_le {p : Pc} : ∀ {ps : List Pc}, p ∈ ps → (tkP p).length ≤ (tkR ps).length
  | y :: ps, h => by
    simp only [tkR, List.length_append]
    rcases List.mem_cons.mp h with e | e
    · subst e; omega
    · have := tkR_le e; omega
theorem toks_run : ∀ (n : Nat) (r : List Pc), depR r ≤ n → (tkR r).length ≤ 1000000 → TT (n + 2) .f_tokens [rW r] [] = .ok (.loc 0) [.lst (tsW (tkR r))] := by
  intro n
  induction n with
  | zero =>
    intro r h hb
    obtain ⟨q, q3, q4, e⟩ := toks_pcs 1 (some (rW r)) r [] none none none (by simpa using hb) fun p hp x hx => by
      have h1 := depR_le hp
      rw [depP_rows] at h1
      have h2 := depE_le hx
      omega
    have e : loopD (gN 2) (L_tokens_2 (TT 1)) (psW r) [some (rW r), some (.loc 0), none, none, none] [.lst []] = .nx [some (rW r), some (.loc 0), q, q3, q4] [.lst (tsW (tkR r))] := e
    rw [TT_tokens]
    simp only [B_tokens, bind_ok', bind_bad', bind_exc', to_ok, to_bad, to_exc, seq_nx, seq_rt, seq_bk, seq_ct, seq_bad, seq_exc, fin_nx, fin_rt, fin_exc, run_eq, sSeq_eq, sNext_eq, sIf_eq, sSet_eq, sAug_eq, sRet_eq, sRetN_eq, sExpr_eq, sFor_eq, loop_nil, gN_eq, var_0, var_s, dC_eq, dBin_eq, dNot_eq, dAnd_eq, dOr_eq, dAndV_eq, dOrV_eq, dNotV_eq, dIf_eq, asBool_bl, toB_eq, dNil_eq, dCons_eq, dCall_eq, dTup_eq, dLst_eq, dImm_eq, dMut_eq, dStill_eq, dRange1_eq, dRange2_eq, add_ii, iadd_ii, sub_ii, and_ii, dNeg_eq, neg_i, cmp_ii, cmp_ss, eq_ii, eq_ss, eq_bb, len_t, len_l, len_f, max2_ii, min2_ii, int_b, dIsT_eq, isT_b, isT_i, isT_s, isT_n, isT_t, isT_l, dSl_eq, oNone_eq, oSome_eq, optI_i, sl_t, sl_l, sl_f, dM1_eq, dM1L_eq, m1k_s, f2_ss, dComp_eq, nox_ok, dYes_eq, dMl_eq, mlk_0, mlk2_0, mlk_1, mlk2_1, pop_ok, clear_ok, isT_loc0, isT_f, len_loc0, seqW_l, seqW_t, seqW_f, seqW_sg, is_nn, is_tn, when_true, nc0, nc1, nc2, nc3, nc4, nc5, nc6, nc7, nc8, ofStr_beq, dPick_eq, ofStr_eq, ixt0, ixt1, ixt2, ixt3, ixl0, ixl1, ixl2, ixl3, dEnumT_eq, enumK_t, pair_tt, dFld_eq, sFld_eq, sFldA_eq, dMeth_eq, List.map_cons, List.map_nil, List.length_cons, List.length_nil, List.replicate_succ, List.replicate_zero, List.cons_append, List.nil_append, List.set_cons_zero, List.set_cons_succ, Nat.reduceSub, Nat.reduceAdd, Nat.zero_add, if_true, Bool.false_eq_true, if_false, decide_true, decide_false, Bool.not_true, Bool.not_false, id, reduceIte, start_eq, List.length_map, Nat.reduceLeDiff, Int.reduceBEq, Bool.or_true, Bool.true_or, Bool.or_false, Bool.false_or, Bool.and_true, Bool.true_and, Bool.and_false, Bool.false_and, line_eq, reduceCtorEq, String.reduceEq, e]
  | succ n ih =>
    intro r h hb
    obtain ⟨q, q3, q4, e⟩ := toks_pcs (n + 2) (some (rW r)) r [] none none none (by simpa using hb) fun p hp x hx M => by
      have h1 := depR_le hp
      rw [depP_rows] at h1
      have h2 := depE_le hx
      have h3 := tkR_le hp
      have h4 := tkP_le hx
      exact callP_re rfl (by simp [lfs, lf, psW_lf]) (ih x (by omega) (by omega)) (reify_loc rfl (tsW_lf _))
    have e : loopD (gN 2) (L_tokens_2 (TT (n + 2))) (psW r) [some (rW r), some (.loc 0), none, none, none] [.lst []] = .nx [some (rW r), some (.loc 0), q, q3, q4] [.lst (tsW (tkR r))] := e
    rw [TT_tokens]
    simp only [B_tokens, bind_ok', bind_bad', bind_exc', to_ok, to_bad, to_exc, seq_nx, seq_rt, seq_bk, seq_ct, seq_bad, seq_exc, fin_nx, fin_rt, fin_exc, run_eq, sSeq_eq, sNext_eq, sIf_eq, sSet_eq, sAug_eq, sRet_eq, sRetN_eq, sExpr_eq, sFor_eq, loop_nil, gN_eq, var_0, var_s, dC_eq, dBin_eq, dNot_eq, dAnd_eq, dOr_eq, dAndV_eq, dOrV_eq, dNotV_eq, dIf_eq, asBool_bl, toB_eq, dNil_eq, dCons_eq, dCall_eq, dTup_eq, dLst_eq, dImm_eq, dMut_eq, dStill_eq, dRange1_eq, dRange2_eq, add_ii, iadd_ii, sub_ii, and_ii, dNeg_eq, neg_i, cmp_ii, cmp_ss, eq_ii, eq_ss, eq_bb, len_t, len_l, len_f, max2_ii, min2_ii, int_b, dIsT_eq, isT_b, isT_i, isT_s, isT_n, isT_t, isT_l, dSl_eq, oNone_eq, oSome_eq, optI_i, sl_t, sl_l, sl_f, dM1_eq, dM1L_eq, m1k_s, f2_ss, dComp_eq, nox_ok, dYes_eq, dMl_eq, mlk_0, mlk2_0, mlk_1, mlk2_1, pop_ok, clear_ok, isT_loc0, isT_f, len_loc0, seqW_l, seqW_t, seqW_f, seqW_sg, is_nn, is_tn, when_true, nc0, nc1, nc2, nc3, nc4, nc5, nc6, nc7, nc8, ofStr_beq, dPick_eq, ofStr_eq, ixt0, ixt1, ixt2, ixt3, ixl0, ixl1, ixl2, ixl3, dEnumT_eq, enumK_t, pair_tt, dFld_eq, sFld_eq, sFldA_eq, dMeth_eq, List.map_cons, List.map_nil, List.length_cons, List.length_nil, List.replicate_succ, List.replicate_zero, List.cons_append, List.nil_append, List.set_cons_zero, List.set_cons_succ, Nat.reduceSub, Nat.reduceAdd, Nat.zero_add, if_true, Bool.false_eq_true, if_false, decide_true, decide_false, Bool.not_true, Bool.not_false, id, reduceIte, start_eq, List.length_map, Nat.reduceLeDiff, Int.reduceBEq, Bool.or_true, Bool.true_or, Bool.or_false, Bool.false_or, Bool.and_true, Bool.true_and, Bool.and_false, Bool.false_and, line_eq, reduceCtorEq, String.reduceEq, e]
theorem toksP (n : Nat) (r : List Pc) (h : depR r ≤ n) (hb : (tkR r).length ≤ 1000000) (M : Mem) : callP 1 (TT (n + 2) .f_tokens) [rW r] M = .ok (.lst (tsW (tkR r))) M :=
  callP_re rfl (by simp [lfs, lf, psW_lf]) (toks_run n r h hb) (reify_loc rfl (tsW_lf _))

/-! ### the law's _law_same of a thing and itself -/
mutual
def plW : W → Bool
  | .str _ => true
  | .int _ => true
  | .tup ws => plWs ws
  | _ => false
def plWs : List W → Bool
  | [] => true
  | w :: ws => plW w && plWs ws
end
theorem plWs_get : ∀ {ws : List W} {w : W}, plWs ws = true → w ∈ ws → plW w = true
  | x :: ws, w, h, hm => by
    have h : (plW x && plWs ws) = true := h
    rw [Bool.and_eq_true] at h
    rcases List.mem_cons.mp hm with e | e
    · rw [e]; exact h.1
    · exact plWs_get h.2 e
mutual
theorem plW_lf : ∀ w, plW w = true → lf w = true
  | .str _, _ => rfl
  | .int _, _ => rfl
  | .tup ws, h => plWs_lf ws h
  | .non, h => nomatch h
  | .bl _, h => nomatch h
  | .lst _, h => nomatch h
  | .fro _, h => nomatch h
  | .obj _ _ _, h => nomatch h
  | .loc _, h => nomatch h
theorem plWs_lf : ∀ ws, plWs ws = true → lfs ws = true
  | [], _ => rfl
  | w :: ws, h => by
    have h : (plW w && plWs ws) = true := h
    rw [Bool.and_eq_true] at h
    show (lf w && lfs ws) = true
    rw [plW_lf w h.1, plWs_lf ws h.2]; rfl
end
theorem wdep_get : ∀ {ws : List W} {w : W}, w ∈ ws → wdep w ≤ wdeps ws
  | x :: ws, w, hm => by
    simp only [wdeps]
    rcases List.mem_cons.mp hm with e | e
    · subst e; omega
    · have := wdep_get e; omega
theorem same_turn (n : Nat) (ws : List W) (hp : plWs ws = true) (i : Nat) (w : W) (q : Option W) (hi : ws[i]? = some w) (hs : ∀ us, w = .tup us → callP 2 (TT (n + 1) .f__law_same) [.tup us, .tup us] [] = .ok (.bl true) []) :
    L__law_same_1 (TT (n + 1)) [some (.tup ws), some (.tup ws), some (.int (0 + (i : Int)))] [] = .nx [some (.tup ws), some (.tup ws), some (.int (0 + (i : Int)))] [] := by
  have hx : ∀ M, vIx (.tup ws) (.int (0 + (i : Int))) M = .ok w M := fun M => by rw [Int.zero_add]; exact ix_t (atI_nat hi)
  have hm : w ∈ ws := List.mem_of_getElem? hi
  have hw := plWs_get hp hm
  cases w with
  | str z =>
    have e : (z == z) = true := beq_self_eq_true z
    simp only [L__law_same_1, bind_ok', bind_bad', bind_exc', to_ok, to_bad, to_exc, seq_nx, seq_rt, seq_bk, seq_ct, seq_bad, seq_exc, fin_nx, fin_rt, fin_exc, run_eq, sSeq_eq, sNext_eq, sIf_eq, sSet_eq, sAug_eq, sRet_eq, sRetN_eq, sExpr_eq, sFor_eq, loop_nil, gN_eq, var_0, var_s, dC_eq, dBin_eq, dNot_eq, dAnd_eq, dOr_eq, dAndV_eq, dOrV_eq, dNotV_eq, dIf_eq, asBool_bl, toB_eq, dNil_eq, dCons_eq, dCall_eq, dTup_eq, dLst_eq, dImm_eq, dMut_eq, dStill_eq, dRange1_eq, dRange2_eq, add_ii, iadd_ii, sub_ii, and_ii, dNeg_eq, neg_i, cmp_ii, cmp_ss, eq_ii, eq_ss, eq_bb, len_t, len_l, len_f, max2_ii, min2_ii, int_b, dIsT_eq, isT_b, isT_i, isT_s, isT_n, isT_t, isT_l, dSl_eq, oNone_eq, oSome_eq, optI_i, sl_t, sl_l, sl_f, dM1_eq, dM1L_eq, m1k_s, f2_ss, dComp_eq, nox_ok, dYes_eq, dMl_eq, mlk_0, mlk2_0, mlk_1, mlk2_1, pop_ok, clear_ok, isT_loc0, isT_f, len_loc0, seqW_l, seqW_t, seqW_f, seqW_sg, is_nn, is_tn, when_true, nc0, nc1, nc2, nc3, nc4, nc5, nc6, nc7, nc8, ofStr_beq, dPick_eq, ofStr_eq, ixt0, ixt1, ixt2, ixt3, ixl0, ixl1, ixl2, ixl3, dEnumT_eq, enumK_t, pair_tt, dFld_eq, sFld_eq, sFldA_eq, dMeth_eq, List.map_cons, List.map_nil, List.length_cons, List.length_nil, List.replicate_succ, List.replicate_zero, List.cons_append, List.nil_append, List.set_cons_zero, List.set_cons_succ, Nat.reduceSub, Nat.reduceAdd, Nat.zero_add, if_true, Bool.false_eq_true, if_false, decide_true, decide_false, Bool.not_true, Bool.not_false, id, reduceIte, start_eq, List.length_map, Nat.reduceLeDiff, Int.reduceBEq, Bool.or_true, Bool.true_or, Bool.or_false, Bool.false_or, Bool.and_true, Bool.true_and, Bool.and_false, Bool.false_and, line_eq, reduceCtorEq, String.reduceEq, hx, instT, e]
  | int z =>
    have e : (z == z) = true := beq_self_eq_true z
    have hwh : ∀ M, callP 1 (TT (n + 1) .f__law_whole) [.int z] M = .ok (.bl true) M := fun M => by
      refine callP_ok rfl rfl (M' := []) ?_ rfl
      rw [TT__law_whole]
      simp only [B__law_whole, bind_ok', bind_bad', bind_exc', to_ok, to_bad, to_exc, seq_nx, seq_rt, seq_bk, seq_ct, seq_bad, seq_exc, fin_nx, fin_rt, fin_exc, run_eq, sSeq_eq, sNext_eq, sIf_eq, sSet_eq, sAug_eq, sRet_eq, sRetN_eq, sExpr_eq, sFor_eq, loop_nil, gN_eq, var_0, var_s, dC_eq, dBin_eq, dNot_eq, dAnd_eq, dOr_eq, dAndV_eq, dOrV_eq, dNotV_eq, dIf_eq, asBool_bl, toB_eq, dNil_eq, dCons_eq, dCall_eq, dTup_eq, dLst_eq, dImm_eq, dMut_eq, dStill_eq, dRange1_eq, dRange2_eq, add_ii, iadd_ii, sub_ii, and_ii, dNeg_eq, neg_i, cmp_ii, cmp_ss, eq_ii, eq_ss, eq_bb, len_t, len_l, len_f, max2_ii, min2_ii, int_b, dIsT_eq, isT_b, isT_i, isT_s, isT_n, isT_t, isT_l, dSl_eq, oNone_eq, oSome_eq, optI_i, sl_t, sl_l, sl_f, dM1_eq, dM1L_eq, m1k_s, f2_ss, dComp_eq, nox_ok, dYes_eq, dMl_eq, mlk_0, mlk2_0, mlk_1, mlk2_1, pop_ok, clear_ok, isT_loc0, isT_f, len_loc0, seqW_l, seqW_t, seqW_f, seqW_sg, is_nn, is_tn, when_true, nc0, nc1, nc2, nc3, nc4, nc5, nc6, nc7, nc8, ofStr_beq, dPick_eq, ofStr_eq, ixt0, ixt1, ixt2, ixt3, ixl0, ixl1, ixl2, ixl3, dEnumT_eq, enumK_t, pair_tt, dFld_eq, sFld_eq, sFldA_eq, dMeth_eq, List.map_cons, List.map_nil, List.length_cons, List.length_nil, List.replicate_succ, List.replicate_zero, List.cons_append, List.nil_append, List.set_cons_zero, List.set_cons_succ, Nat.reduceSub, Nat.reduceAdd, Nat.zero_add, if_true, Bool.false_eq_true, if_false, decide_true, decide_false, Bool.not_true, Bool.not_false, id, reduceIte, start_eq, List.length_map, Nat.reduceLeDiff, Int.reduceBEq, Bool.or_true, Bool.true_or, Bool.or_false, Bool.false_or, Bool.and_true, Bool.true_and, Bool.and_false, Bool.false_and, line_eq, reduceCtorEq, String.reduceEq, instT]
    simp only [L__law_same_1, bind_ok', bind_bad', bind_exc', to_ok, to_bad, to_exc, seq_nx, seq_rt, seq_bk, seq_ct, seq_bad, seq_exc, fin_nx, fin_rt, fin_exc, run_eq, sSeq_eq, sNext_eq, sIf_eq, sSet_eq, sAug_eq, sRet_eq, sRetN_eq, sExpr_eq, sFor_eq, loop_nil, gN_eq, var_0, var_s, dC_eq, dBin_eq, dNot_eq, dAnd_eq, dOr_eq, dAndV_eq, dOrV_eq, dNotV_eq, dIf_eq, asBool_bl, toB_eq, dNil_eq, dCons_eq, dCall_eq, dTup_eq, dLst_eq, dImm_eq, dMut_eq, dStill_eq, dRange1_eq, dRange2_eq, add_ii, iadd_ii, sub_ii, and_ii, dNeg_eq, neg_i, cmp_ii, cmp_ss, eq_ii, eq_ss, eq_bb, len_t, len_l, len_f, max2_ii, min2_ii, int_b, dIsT_eq, isT_b, isT_i, isT_s, isT_n, isT_t, isT_l, dSl_eq, oNone_eq, oSome_eq, optI_i, sl_t, sl_l, sl_f, dM1_eq, dM1L_eq, m1k_s, f2_ss, dComp_eq, nox_ok, dYes_eq, dMl_eq, mlk_0, mlk2_0, mlk_1, mlk2_1, pop_ok, clear_ok, isT_loc0, isT_f, len_loc0, seqW_l, seqW_t, seqW_f, seqW_sg, is_nn, is_tn, when_true, nc0, nc1, nc2, nc3, nc4, nc5, nc6, nc7, nc8, ofStr_beq, dPick_eq, ofStr_eq, ixt0, ixt1, ixt2, ixt3, ixl0, ixl1, ixl2, ixl3, dEnumT_eq, enumK_t, pair_tt, dFld_eq, sFld_eq, sFldA_eq, dMeth_eq, List.map_cons, List.map_nil, List.length_cons, List.length_nil, List.replicate_succ, List.replicate_zero, List.cons_append, List.nil_append, List.set_cons_zero, List.set_cons_succ, Nat.reduceSub, Nat.reduceAdd, Nat.zero_add, if_true, Bool.false_eq_true, if_false, decide_true, decide_false, Bool.not_true, Bool.not_false, id, reduceIte, start_eq, List.length_map, Nat.reduceLeDiff, Int.reduceBEq, Bool.or_true, Bool.true_or, Bool.or_false, Bool.false_or, Bool.and_true, Bool.true_and, Bool.and_false, Bool.false_and, line_eq, reduceCtorEq, String.reduceEq, hx, instT, hwh, e]
  | tup us =>
    have h := hs us rfl
    simp only [L__law_same_1, bind_ok', bind_bad', bind_exc', to_ok, to_bad, to_exc, seq_nx, seq_rt, seq_bk, seq_ct, seq_bad, seq_exc, fin_nx, fin_rt, fin_exc, run_eq, sSeq_eq, sNext_eq, sIf_eq, sSet_eq, sAug_eq, sRet_eq, sRetN_eq, sExpr_eq, sFor_eq, loop_nil, gN_eq, var_0, var_s, dC_eq, dBin_eq, dNot_eq, dAnd_eq, dOr_eq, dAndV_eq, dOrV_eq, dNotV_eq, dIf_eq, asBool_bl, toB_eq, dNil_eq, dCons_eq, dCall_eq, dTup_eq, dLst_eq, dImm_eq, dMut_eq, dStill_eq, dRange1_eq, dRange2_eq, add_ii, iadd_ii, sub_ii, and_ii, dNeg_eq, neg_i, cmp_ii, cmp_ss, eq_ii, eq_ss, eq_bb, len_t, len_l, len_f, max2_ii, min2_ii, int_b, dIsT_eq, isT_b, isT_i, isT_s, isT_n, isT_t, isT_l, dSl_eq, oNone_eq, oSome_eq, optI_i, sl_t, sl_l, sl_f, dM1_eq, dM1L_eq, m1k_s, f2_ss, dComp_eq, nox_ok, dYes_eq, dMl_eq, mlk_0, mlk2_0, mlk_1, mlk2_1, pop_ok, clear_ok, isT_loc0, isT_f, len_loc0, seqW_l, seqW_t, seqW_f, seqW_sg, is_nn, is_tn, when_true, nc0, nc1, nc2, nc3, nc4, nc5, nc6, nc7, nc8, ofStr_beq, dPick_eq, ofStr_eq, ixt0, ixt1, ixt2, ixt3, ixl0, ixl1, ixl2, ixl3, dEnumT_eq, enumK_t, pair_tt, dFld_eq, sFld_eq, sFldA_eq, dMeth_eq, List.map_cons, List.map_nil, List.length_cons, List.length_nil, List.replicate_succ, List.replicate_zero, List.cons_append, List.nil_append, List.set_cons_zero, List.set_cons_succ, Nat.reduceSub, Nat.reduceAdd, Nat.zero_add, if_true, Bool.false_eq_true, if_false, decide_true, decide_false, Bool.not_true, Bool.not_false, id, reduceIte, start_eq, List.length_map, Nat.reduceLeDiff, Int.reduceBEq, Bool.or_true, Bool.true_or, Bool.or_false, Bool.false_or, Bool.and_true, Bool.true_and, Bool.and_false, Bool.false_and, line_eq, reduceCtorEq, String.reduceEq, hx, instT, h]
  | non => cases hw
  | bl _ => cases hw
  | lst _ => cases hw
  | fro _ => cases hw
  | obj _ _ _ => cases hw
  | loc _ => cases hw
theorem same_end (F : Fn → FnD) (ws : List W) (ρ' : Rho) (h : inW62 (ws.length : Int)) (e : loopD (gN 2) (L__law_same_1 F) (rangeW 0 ((ws.length : Int)).toNat) [some (.tup ws), some (.tup ws), none] [] = .nx ρ' []) : runD 3 (B__law_same F) [.tup ws, .tup ws] [] = .ok (.bl true) [] := by
  have h1 : rng1 [.int (ws.length : Int)] [] = .ok (rangeW 0 ((ws.length : Int)).toNat) [] := when_t h
  have hl : ∀ M, fLen [.tup ws] M = .ok (.int (ws.length : Int)) M := fun _ => rfl
  generalize (ws.length : Int) = L at *
  have ee : (L == L) = true := beq_self_eq_true _
  simp only [B__law_same, bind_ok', bind_bad', bind_exc', to_ok, to_bad, to_exc, seq_nx, seq_rt, seq_bk, seq_ct, seq_bad, seq_exc, fin_nx, fin_rt, fin_exc, run_eq, sSeq_eq, sNext_eq, sIf_eq, sSet_eq, sAug_eq, sRet_eq, sRetN_eq, sExpr_eq, sFor_eq, loop_nil, gN_eq, var_0, var_s, dC_eq, dBin_eq, dNot_eq, dAnd_eq, dOr_eq, dAndV_eq, dOrV_eq, dNotV_eq, dIf_eq, asBool_bl, toB_eq, dNil_eq, dCons_eq, dCall_eq, dTup_eq, dLst_eq, dImm_eq, dMut_eq, dStill_eq, dRange1_eq, dRange2_eq, add_ii, iadd_ii, sub_ii, and_ii, dNeg_eq, neg_i, cmp_ii, cmp_ss, eq_ii, eq_ss, eq_bb, max2_ii, min2_ii, int_b, dIsT_eq, isT_b, isT_i, isT_s, isT_n, isT_t, isT_l, dSl_eq, oNone_eq, oSome_eq, optI_i, sl_t, sl_l, sl_f, dM1_eq, dM1L_eq, m1k_s, f2_ss, dComp_eq, nox_ok, dYes_eq, dMl_eq, mlk_0, mlk2_0, mlk_1, mlk2_1, pop_ok, clear_ok, isT_loc0, isT_f, len_loc0, seqW_l, seqW_t, seqW_f, seqW_sg, is_nn, is_tn, when_true, nc0, nc1, nc2, nc3, nc4, nc5, nc6, nc7, nc8, ofStr_beq, dPick_eq, ofStr_eq, ixt0, ixt1, ixt2, ixt3, ixl0, ixl1, ixl2, ixl3, dEnumT_eq, enumK_t, pair_tt, dFld_eq, sFld_eq, sFldA_eq, dMeth_eq, List.map_cons, List.map_nil, List.length_cons, List.length_nil, List.replicate_succ, List.replicate_zero, List.cons_append, List.nil_append, List.set_cons_zero, List.set_cons_succ, Nat.reduceSub, Nat.reduceAdd, Nat.zero_add, if_true, Bool.false_eq_true, if_false, decide_true, decide_false, Bool.not_true, Bool.not_false, id, reduceIte, start_eq, List.length_map, Nat.reduceLeDiff, Int.reduceBEq, Bool.or_true, Bool.true_or, Bool.or_false, Bool.false_or, Bool.and_true, Bool.true_and, Bool.and_false, Bool.false_and, line_eq, reduceCtorEq, String.reduceEq, instT, hl, ee, h1, e]
theorem same_run : ∀ (n : Nat) (ws : List W), plWs ws = true → wdeps ws ≤ n → ws.length ≤ 1000000 → (∀ us, .tup us ∈ ws → wdeps us + 1 ≤ n → callP 2 (TT (n + 1) .f__law_same) [.tup us, .tup us] [] = .ok (.bl true) []) →
    TT (n + 2) .f__law_same [.tup ws, .tup ws] [] = .ok (.bl true) [] := by
  intro n ws hp hd hl hs
  have hloop := loop_inv (g := gN 2) (s := L__law_same_1 (TT (n + 1))) (fun _ ρ M => M = [] ∧ ∃ q, ρ = [some (.tup ws), some (.tup ws), q]) (rangeW 0 ((ws.length : Int)).toNat) 0 [some (.tup ws), some (.tup ws), none] [] ⟨rfl, none, rfl⟩ (by
    rintro i w ρ M hi ⟨rfl, q, rfl⟩
    obtain ⟨h1, rfl⟩ := rangeW_get hi
    have hl' : i < ws.length := by omega
    obtain ⟨w, hw⟩ : ∃ w, ws[i]? = some w := ⟨ws[i], by simp [hl']⟩
    refine ⟨_, _, [], rfl, .inl (same_turn n ws hp i w q hw fun us e => ?_), rfl, _, rfl⟩
    subst e
    have hm := List.mem_of_getElem? hw
    have := wdep_get hm
    simp only [wdep] at this
    exact hs us hm (by omega))
  obtain ⟨ρ', M', e, rfl, q, rfl⟩ := hloop
  rw [TT__law_same]
  exact same_end (TT (n + 1)) ws _ ⟨by omega, by omega⟩ e
mutual
/-- no tuple in it is long -/
def shW : W → Bool
  | .tup ws => decide (ws.length ≤ 1000000) && shWs ws
  | _ => true
def shWs : List W → Bool
  | [] => true
  | w :: ws => shW w && shWs ws
end
theorem shWs_get : ∀ {ws : List W} {w : W}, shWs ws = true → w ∈ ws → shW w = true
  | x :: ws, w, h, hm => by
    have h : (shW x && shWs ws) = true := h
    rw [Bool.and_eq_true] at h
    rcases List.mem_cons.mp hm with e | e
    · rw [e]; exact h.1
    · exact shWs_get h.2 e
theorem same_all : ∀ (n : Nat) (ws : List W), plWs ws = true → shW (.tup ws) = true → wdeps ws ≤ n → ∀ M, callP 2 (TT (n + 2) .f__law_same) [.tup ws, .tup ws] M = .ok (.bl true) M := by
  intro n
  induction n with
  | zero =>
    intro ws hp hl hd M
    have hl : (decide (ws.length ≤ 1000000) && shWs ws) = true := hl
    rw [Bool.and_eq_true, decide_eq_true_eq] at hl
    refine callP_ok rfl (by simp [lfs, lf, plWs_lf ws hp]) (same_run 0 ws hp hd hl.1 fun us hm h => by omega) rfl
  | succ n ih =>
    intro ws hp hl hd M
    have hl : (decide (ws.length ≤ 1000000) && shWs ws) = true := hl
    rw [Bool.and_eq_true, decide_eq_true_eq] at hl
    refine callP_ok rfl (by simp [lfs, lf, plWs_lf ws hp]) (same_run (n + 1) ws hp hd hl.1 fun us hm h => ?_) rfl
    exact ih us (plWs_get hp hm) (shWs_get hl.2 hm) (by omega) []

end K07

namespace K07
open PySem PySem.Spec L2 LP
/-! ### the row that the law puts together of tokens -/
abbrev En := Nat × Nat × Nat
abbrev FrW := W × List (List Pc) × List Pc
def nums : List En → List Nat
  | [] => []
  | e :: es => e.1 :: e.2.1 :: e.2.2 :: nums es
def BOk (M : Mem) : List En → List FrW → Prop
  | [], [] => True
  | e :: es, f :: fs => M[e.1]? = some (.lst [f.1, .loc e.2.1, .loc e.2.2]) ∧ M[e.2.1]? = some (.lst (rsW f.2.1)) ∧ M[e.2.2]? = some (.lst (psW f.2.2)) ∧ BOk M es fs
  | _, _ => False
theorem BOk.mono {M M' : Mem} : ∀ {es : List En} {fs : List FrW}, (∀ x ∈ nums es, M'[x]? = M[x]?) → BOk M es fs → BOk M' es fs
  | [], [], _, _ => trivial
  | e :: es, f :: fs, h, ⟨a, b, c, d⟩ => ⟨(h _ (by simp [nums])).trans a, (h _ (by simp [nums])).trans b, (h _ (by simp [nums])).trans c, BOk.mono (fun x hx => h x (by simp [nums, hx])) d⟩
  | [], _ :: _, _, h => h
  | _ :: _, [], _, h => h
theorem BOk.lt {M : Mem} : ∀ {es : List En} {fs : List FrW}, BOk M es fs → ∀ x ∈ nums es, x < M.length
  | e :: es, f :: fs, ⟨a, b, c, d⟩, x, hx => by
    simp only [nums, List.mem_cons] at hx
    rcases hx with h | h | h | h
    · subst h; exact (List.getElem?_eq_some_iff.mp a).1
    · subst h; exact (List.getElem?_eq_some_iff.mp b).1
    · subst h; exact (List.getElem?_eq_some_iff.mp c).1
    · exact BOk.lt d x h
  | [], _, _, _, hx => nomatch hx
abbrev eW (es : List En) : List W := (es.map fun e => W.loc e.1).reverse
theorem eW_cons (e : En) (es : List En) : eW (e :: es) = eW es ++ [.loc e.1] := by simp [eW]
def topW : W := .tup [.str (Str.ofString "top")]
def frs (st : St0) : List FrW := st.fs.map (fun f => (tW f.head, f.full, f.parts)) ++ [(topW, [], st.base)]
def BInv (M : Mem) (es : List En) (st : St0) : Prop := M[3]? = some (.lst (eW es)) ∧ (3 :: nums es).Nodup ∧ BOk M es (frs st)
theorem frs_push (st : St0) (p : Pc) : ∃ h full ps rest, frs st = (h, full, ps) :: rest ∧ frs (st.push p) = (h, full, ps ++ [p]) :: rest := by
  obtain ⟨fs, base⟩ := st
  cases fs with
  | nil => exact ⟨_, _, _, _, rfl, rfl⟩
  | cons f fs => exact ⟨_, _, _, _, rfl, rfl⟩
/-- a piece more on top -/
theorem BInv.push {M : Mem} {es : List En} {st : St0} (h : BInv M es st) (p : Pc) : ∃ e es' ws, es = e :: es' ∧ M[e.1]? = some (.lst ws) ∧ atI ws 2 = some (.loc e.2.2) ∧ ∃ ps, (∃ f ∈ frs st, f.2.2 = ps) ∧ M[e.2.2]? = some (.lst (psW ps)) ∧ BInv (M.set e.2.2 (.lst (psW ps ++ [pW p]))) es (st.push p) := by
  obtain ⟨h1, h2, h3⟩ := h
  obtain ⟨hd, full, ps, rest, e1, e2⟩ := frs_push st p
  rw [e1] at h3
  cases es with
  | nil => exact h3.elim
  | cons e es =>
    obtain ⟨a, b, c, d⟩ := h3
    simp only [nums, List.nodup_cons, List.mem_cons, not_or] at h2
    have hl := (List.getElem?_eq_some_iff.mp c).1
    refine ⟨e, es, _, rfl, a, rfl, ps, ⟨_, by rw [e1]; exact List.mem_cons_self .., rfl⟩, c, ?_, ?_, ?_⟩
    · rw [List.getElem?_set_ne (Ne.symm h2.1.2.2.1)]; exact h1
    · simp only [nums, List.nodup_cons, List.mem_cons, not_or]; exact h2
    · rw [e2]
      refine ⟨?_, ?_, ?_, d.mono fun x hx => List.getElem?_set_ne fun q => h2.2.2.2.1 (by rw [q]; exact hx)⟩
      · rw [List.getElem?_set_ne (fun q => h2.2.1.2.1 q.symm)]; exact a
      · rw [List.getElem?_set_ne (fun q => h2.2.2.1.1 q.symm)]; exact b
      · rw [List.getElem?_set_self hl, psW_append]; rfl
theorem BInv.top {M : Mem} {es : List En} {st : St0} (h : BInv M es st) : ∃ e es', es = e :: es' ∧ atI (eW es) (-1) = some (.loc e.1) := by
  obtain ⟨h1, h2, h3⟩ := h
  cases es with
  | nil =>
    obtain ⟨hd, full, ps, rest, e1, _⟩ := frs_push st .fin
    rw [e1] at h3
    exact h3.elim
  | cons e es => exact ⟨e, es, rfl, by rw [eW_cons]; exact atI_last _ _⟩
theorem in3 {k : Bool → Bool} {a b c x : Str} {M : Mem} : vIn k (.str x) (.lst [.str a, .str b, .str c]) M = .ok (.bl (k (a == x || (b == x || (c == x || false))))) M := when_t ⟨rfl, rfl⟩
abbrev BR (s : W) (t : Tk) (p3 p4 p5 p6 : Option W) : Rho := [some s, some (.loc 3), some (tW t), p3, p4, p5, p6]
def headS : Tk → Str
  | .word _ => Str.ofString "word"
  | .gap _ => Str.ofString "gap"
  | .fin => Str.ofString "end"
  | .stop _ => Str.ofString "stop"
  | .opn => Str.ofString "open"
  | .hng _ => Str.ofString "hang"
  | .eit => Str.ofString "either"
  | .cls => Str.ofString "close"
  | .bck => Str.ofString "back"
  | .dne => Str.ofString "done"
  | .or => Str.ofString "or"
theorem tW_0 (t : Tk) (M : Mem) : vIx (tW t) (.int 0) M = .ok (.str (headS t)) M := by
  cases t <;> exact ix_t rfl
def isOr : Tk → Bool
  | .or => true
  | _ => false
theorem b9 (F : Fn → FnD) (s : W) (t : Tk) (p3 p4 p5 p6 : Option W) (M : Mem) : L__law_built_9 F (BR s t p3 p4 p5 p6) M = .ok (isOpen t) M := by
  have s3 : (3 : Nat) ≤ 16777216 := by decide
  have h0 := tW_0 t
  cases t <;> simp only [L__law_built_9, bind_ok', bind_bad', bind_exc', to_ok, to_bad, to_exc, seq_nx, seq_rt, seq_bk, seq_ct, seq_bad, seq_exc, fin_nx, fin_rt, fin_exc, run_eq, sSeq_eq, sNext_eq, sIf_eq, sSet_eq, sAug_eq, sRet_eq, sRetN_eq, sExpr_eq, sFor_eq, loop_nil, gN_eq, var_0, var_s, dC_eq, dBin_eq, dNot_eq, dAnd_eq, dOr_eq, dAndV_eq, dOrV_eq, dNotV_eq, dIf_eq, asBool_bl, toB_eq, dNil_eq, dCons_eq, dCall_eq, dTup_eq, dLst_eq, dImm_eq, dMut_eq, dStill_eq, dRange1_eq, dRange2_eq, add_ii, iadd_ii, sub_ii, and_ii, dNeg_eq, neg_i, cmp_ii, cmp_ss, eq_ii, eq_ss, eq_bb, len_t, len_l, len_f, max2_ii, min2_ii, int_b, dIsT_eq, isT_b, isT_i, isT_s, isT_n, isT_t, isT_l, dSl_eq, oNone_eq, oSome_eq, optI_i, sl_t, sl_l, sl_f, dM1_eq, dM1L_eq, m1k_s, f2_ss, dComp_eq, nox_ok, dYes_eq, dMl_eq, mlk_0, mlk2_0, mlk_1, mlk2_1, pop_ok, clear_ok, isT_loc0, isT_f, len_loc0, seqW_l, seqW_t, seqW_f, seqW_sg, is_nn, is_tn, when_true, nc0, nc1, nc2, nc3, nc4, nc5, nc6, nc7, nc8, ofStr_beq, dPick_eq, ofStr_eq, ixt0, ixt1, ixt2, ixt3, ixl0, ixl1, ixl2, ixl3, dEnumT_eq, enumK_t, pair_tt, dFld_eq, sFld_eq, sFldA_eq, dMeth_eq, List.map_cons, List.map_nil, List.length_cons, List.length_nil, List.replicate_succ, List.replicate_zero, List.cons_append, List.nil_append, List.set_cons_zero, List.set_cons_succ, Nat.reduceSub, Nat.reduceAdd, Nat.zero_add, if_true, Bool.false_eq_true, if_false, decide_true, decide_false, Bool.not_true, Bool.not_false, id, reduceIte, start_eq, List.length_map, Nat.reduceLeDiff, Int.reduceBEq, Bool.or_true, Bool.true_or, Bool.or_false, Bool.false_or, Bool.and_true, Bool.true_and, Bool.and_false, Bool.false_and, line_eq, reduceCtorEq, String.reduceEq, h0, headS, in3, s3, isOpen]
theorem b3 (F : Fn → FnD) (s : W) (t : Tk) (p3 p4 p5 p6 : Option W) (M : Mem) : L__law_built_3 F (BR s t p3 p4 p5 p6) M = .ok (shuts t) M := by
  have s3 : (3 : Nat) ≤ 16777216 := by decide
  have h0 := tW_0 t
  cases t <;> simp only [L__law_built_3, bind_ok', bind_bad', bind_exc', to_ok, to_bad, to_exc, seq_nx, seq_rt, seq_bk, seq_ct, seq_bad, seq_exc, fin_nx, fin_rt, fin_exc, run_eq, sSeq_eq, sNext_eq, sIf_eq, sSet_eq, sAug_eq, sRet_eq, sRetN_eq, sExpr_eq, sFor_eq, loop_nil, gN_eq, var_0, var_s, dC_eq, dBin_eq, dNot_eq, dAnd_eq, dOr_eq, dAndV_eq, dOrV_eq, dNotV_eq, dIf_eq, asBool_bl, toB_eq, dNil_eq, dCons_eq, dCall_eq, dTup_eq, dLst_eq, dImm_eq, dMut_eq, dStill_eq, dRange1_eq, dRange2_eq, add_ii, iadd_ii, sub_ii, and_ii, dNeg_eq, neg_i, cmp_ii, cmp_ss, eq_ii, eq_ss, eq_bb, len_t, len_l, len_f, max2_ii, min2_ii, int_b, dIsT_eq, isT_b, isT_i, isT_s, isT_n, isT_t, isT_l, dSl_eq, oNone_eq, oSome_eq, optI_i, sl_t, sl_l, sl_f, dM1_eq, dM1L_eq, m1k_s, f2_ss, dComp_eq, nox_ok, dYes_eq, dMl_eq, mlk_0, mlk2_0, mlk_1, mlk2_1, pop_ok, clear_ok, isT_loc0, isT_f, len_loc0, seqW_l, seqW_t, seqW_f, seqW_sg, is_nn, is_tn, when_true, nc0, nc1, nc2, nc3, nc4, nc5, nc6, nc7, nc8, ofStr_beq, dPick_eq, ofStr_eq, ixt0, ixt1, ixt2, ixt3, ixl0, ixl1, ixl2, ixl3, dEnumT_eq, enumK_t, pair_tt, dFld_eq, sFld_eq, sFldA_eq, dMeth_eq, List.map_cons, List.map_nil, List.length_cons, List.length_nil, List.replicate_succ, List.replicate_zero, List.cons_append, List.nil_append, List.set_cons_zero, List.set_cons_succ, Nat.reduceSub, Nat.reduceAdd, Nat.zero_add, if_true, Bool.false_eq_true, if_false, decide_true, decide_false, Bool.not_true, Bool.not_false, id, reduceIte, start_eq, List.length_map, Nat.reduceLeDiff, Int.reduceBEq, Bool.or_true, Bool.true_or, Bool.or_false, Bool.false_or, Bool.and_true, Bool.true_and, Bool.and_false, Bool.false_and, line_eq, reduceCtorEq, String.reduceEq, h0, headS, in3, s3, shuts]
theorem b6 (F : Fn → FnD) (s : W) (t : Tk) (p3 p4 p5 p6 : Option W) (M : Mem) : L__law_built_6 F (BR s t p3 p4 p5 p6) M = .ok (isOr t) M := by
  have h0 := tW_0 t
  cases t <;> simp only [L__law_built_6, bind_ok', bind_bad', bind_exc', to_ok, to_bad, to_exc, seq_nx, seq_rt, seq_bk, seq_ct, seq_bad, seq_exc, fin_nx, fin_rt, fin_exc, run_eq, sSeq_eq, sNext_eq, sIf_eq, sSet_eq, sAug_eq, sRet_eq, sRetN_eq, sExpr_eq, sFor_eq, loop_nil, gN_eq, var_0, var_s, dC_eq, dBin_eq, dNot_eq, dAnd_eq, dOr_eq, dAndV_eq, dOrV_eq, dNotV_eq, dIf_eq, asBool_bl, toB_eq, dNil_eq, dCons_eq, dCall_eq, dTup_eq, dLst_eq, dImm_eq, dMut_eq, dStill_eq, dRange1_eq, dRange2_eq, add_ii, iadd_ii, sub_ii, and_ii, dNeg_eq, neg_i, cmp_ii, cmp_ss, eq_ii, eq_ss, eq_bb, len_t, len_l, len_f, max2_ii, min2_ii, int_b, dIsT_eq, isT_b, isT_i, isT_s, isT_n, isT_t, isT_l, dSl_eq, oNone_eq, oSome_eq, optI_i, sl_t, sl_l, sl_f, dM1_eq, dM1L_eq, m1k_s, f2_ss, dComp_eq, nox_ok, dYes_eq, dMl_eq, mlk_0, mlk2_0, mlk_1, mlk2_1, pop_ok, clear_ok, isT_loc0, isT_f, len_loc0, seqW_l, seqW_t, seqW_f, seqW_sg, is_nn, is_tn, when_true, nc0, nc1, nc2, nc3, nc4, nc5, nc6, nc7, nc8, ofStr_beq, dPick_eq, ofStr_eq, ixt0, ixt1, ixt2, ixt3, ixl0, ixl1, ixl2, ixl3, dEnumT_eq, enumK_t, pair_tt, dFld_eq, sFld_eq, sFldA_eq, dMeth_eq, List.map_cons, List.map_nil, List.length_cons, List.length_nil, List.replicate_succ, List.replicate_zero, List.cons_append, List.nil_append, List.set_cons_zero, List.set_cons_succ, Nat.reduceSub, Nat.reduceAdd, Nat.zero_add, if_true, Bool.false_eq_true, if_false, decide_true, decide_false, Bool.not_true, Bool.not_false, id, reduceIte, start_eq, List.length_map, Nat.reduceLeDiff, Int.reduceBEq, Bool.or_true, Bool.true_or, Bool.or_false, Bool.false_or, Bool.and_true, Bool.true_and, Bool.and_false, Bool.false_and, line_eq, reduceCtorEq, String.reduceEq, h0, headS, isOr]
/-- frames[-1][2].append(x) -/
theorem put_top (s : W) (t : Tk) (p3 p4 p5 p6 : Option W) (M : Mem) (es : List En) (st : St0) (h : BInv M es st) (p : Pc) (d : DEn) (hb : ∀ f ∈ frs st, f.2.2.length ≤ 1000000) (hd : ∀ M, d (BR s t p3 p4 p5 p6) M = .ok (pW p) M) :
    ∃ M', sExpr (dMl fAppend (dBin vIx (dBin vIx (dVar 1) (dNeg (dC (.int 1)))) (dC (.int 2))) (dCons d dNil)) (BR s t p3 p4 p5 p6) M = .nx (BR s t p3 p4 p5 p6) M' ∧ BInv M' es (st.push p) ∧ M'.length = M.length := by
  obtain ⟨e, es', ws, rfl, g1, g2, ps, ⟨f, gf, rfl⟩, g3, g4⟩ := h.push p
  obtain ⟨e0, es0, q1, q2⟩ := h.top
  cases q1
  have i1 : vIx (.loc 3) (.int (-1)) M = .ok (.loc e.1) M := ix_cell h.1 q2
  have i2 : vIx (.loc e.1) (.int 2) M = .ok (.loc e.2.2) M := ix_cell g1 g2
  have m1 : ∀ r, mlk fAppend r (.loc e.2.2) M = (r M).bind (mlk2 fAppend (.loc e.2.2)) := fun r => mlk_at g3
  have hlen := hb _ gf
  have m2 : mlk2 fAppend (.loc e.2.2) [pW p] M = .ok .non (M.set e.2.2 (.lst (psW f.2.2 ++ [pW p]))) := by
    rw [mlk2_at g3, append_ok (by rw [psW_len]; omega)]
  refine ⟨_, ?_, g4, by simp⟩
  simp only [bind_ok', bind_bad', bind_exc', to_ok, to_bad, to_exc, seq_nx, seq_rt, seq_bk, seq_ct, seq_bad, seq_exc, fin_nx, fin_rt, fin_exc, run_eq, sSeq_eq, sNext_eq, sIf_eq, sSet_eq, sAug_eq, sRet_eq, sRetN_eq, sExpr_eq, sFor_eq, loop_nil, gN_eq, var_0, var_s, dC_eq, dBin_eq, dNot_eq, dAnd_eq, dOr_eq, dAndV_eq, dOrV_eq, dNotV_eq, dIf_eq, asBool_bl, toB_eq, dNil_eq, dCons_eq, dCall_eq, dTup_eq, dLst_eq, dImm_eq, dMut_eq, dStill_eq, dRange1_eq, dRange2_eq, add_ii, iadd_ii, sub_ii, and_ii, dNeg_eq, neg_i, cmp_ii, cmp_ss, eq_ii, eq_ss, eq_bb, len_t, len_l, len_f, max2_ii, min2_ii, int_b, dIsT_eq, isT_b, isT_i, isT_s, isT_n, isT_t, isT_l, dSl_eq, oNone_eq, oSome_eq, optI_i, sl_t, sl_l, sl_f, dM1_eq, dM1L_eq, m1k_s, f2_ss, dComp_eq, nox_ok, dYes_eq, dMl_eq, mlk_0, mlk2_0, mlk_1, mlk2_1, pop_ok, clear_ok, isT_loc0, isT_f, len_loc0, seqW_l, seqW_t, seqW_f, seqW_sg, is_nn, is_tn, when_true, nc0, nc1, nc2, nc3, nc4, nc5, nc6, nc7, nc8, ofStr_beq, dPick_eq, ofStr_eq, ixt0, ixt1, ixt2, ixt3, ixl0, ixl1, ixl2, ixl3, dEnumT_eq, enumK_t, pair_tt, dFld_eq, sFld_eq, sFldA_eq, dMeth_eq, List.map_cons, List.map_nil, List.length_cons, List.length_nil, List.replicate_succ, List.replicate_zero, List.cons_append, List.nil_append, List.set_cons_zero, List.set_cons_succ, Nat.reduceSub, Nat.reduceAdd, Nat.zero_add, if_true, Bool.false_eq_true, if_false, decide_true, decide_false, Bool.not_true, Bool.not_false, id, reduceIte, start_eq, List.length_map, Nat.reduceLeDiff, Int.reduceBEq, Bool.or_true, Bool.true_or, Bool.or_false, Bool.false_or, Bool.and_true, Bool.true_and, Bool.and_false, Bool.false_and, line_eq, reduceCtorEq, String.reduceEq, i1, i2, m1, m2, hd]
theorem b_leaf (n : Nat) (s : W) (t : Tk) (p3 p4 p5 p6 : Option W) (M : Mem) (es : List En) (st : St0) (h : BInv M es st) (ht : isLeaf t = true) (hb : ∀ f ∈ frs st, f.2.2.length ≤ 1000000) :
    ∃ M', L__law_built_5 (TT n) (BR s t p3 p4 p5 p6) M = .nx (BR s t p3 p4 p5 p6) M' ∧ BInv M' es (st.push (leafP t)) := by
  obtain ⟨M', h1, h2, _⟩ := put_top s t p3 p4 p5 p6 M es st h (leafP t) (dVar 2) hb (fun M => by rw [leafP_W ht]; rfl)
  exact ⟨M', h1, h2⟩
theorem b_open (n : Nat) (s : W) (t : Tk) (p3 p4 p5 p6 : Option W) (M : Mem) (es : List En) (st : St0) (h : BInv M es st) (hb : es.length ≤ 1000000) :
    ∃ M' es', L__law_built_10 (TT n) (BR s t p3 p4 p5 p6) M = .nx (BR s t p3 p4 p5 p6) M' ∧ BInv M' es' ⟨⟨t, [], []⟩ :: st.fs, st.base⟩ ∧ es'.length = es.length + 1 := by
  obtain ⟨h1, h2, h3⟩ := h
  have l3 : 3 < M.length := (List.getElem?_eq_some_iff.mp h1).1
  have hlt := h3.lt
  have ne : ∀ x, x < M.length → M.length ≠ x ∧ M.length + 1 ≠ x ∧ M.length + 2 ≠ x := fun x h => ⟨by omega, by omega, by omega⟩
  let M1 : Mem := M ++ [.lst []] ++ [.lst []] ++ [.lst [tW t, .loc M.length, .loc (M.length + 1)]]
  have g : ∀ x, x < M.length → M1[x]? = M[x]? := fun x h => by
    simp only [M1]
    rw [List.getElem?_append_left (by simp; omega), List.getElem?_append_left (by simp; omega), List.getElem?_append_left h]
  have g0 : M1[M.length]? = some (.lst []) := by simp [M1]
  have g1 : M1[M.length + 1]? = some (.lst []) := by simp [M1]
  have g2 : M1[M.length + 2]? = some (.lst [tW t, .loc M.length, .loc (M.length + 1)]) := by simp [M1]
  have lM1 : M1.length = M.length + 3 := by simp [M1]
  have m1 : ∀ r, mlk fAppend r (.loc 3) M = (r M).bind (mlk2 fAppend (.loc 3)) := fun r => mlk_at h1
  have m2 : mlk2 fAppend (.loc 3) [.loc (M.length + 2)] M1 = .ok .non (M1.set 3 (.lst (eW es ++ [.loc (M.length + 2)]))) := by
    rw [mlk2_at ((g 3 l3).trans h1), append_ok (by simp [eW]; omega)]
  have s0 : (0 : Nat) ≤ 16777216 := by decide
  have s3 : (3 : Nat) ≤ 16777216 := by decide
  have hlen : (M ++ [Cell.lst []] ++ [Cell.lst []]).length = M.length + 2 := by simp
  have hlen1 : (M ++ [Cell.lst []]).length = M.length + 1 := by simp
  refine ⟨M1.set 3 (.lst (eW es ++ [.loc (M.length + 2)])), (M.length + 2, M.length, M.length + 1) :: es, ?_, ⟨?_, ?_, ?_⟩, by simp⟩
  · have hv2 : ∀ M, dVar 2 (BR s t p3 p4 p5 p6) M = .ok (tW t) M := fun _ => rfl
    have hr : dCons (dMut (dLst (dCons (dVar 2) (dCons (dMut (dLst (dNil))) (dCons (dMut (dLst (dNil))) (dNil)))))) dNil (BR s t p3 p4 p5 p6) M = .ok [.loc (M.length + 2)] M1 := by
      simp only [dCons_eq, dMut_eq, dLst_eq, dNil_eq, bind_ok', hv2, List.length_nil, List.length_cons, line_eq, s0, s3, if_true, Nat.zero_add, Nat.reduceAdd, hlen, hlen1]
      rfl
    have hv1 : dVar 1 (BR s t p3 p4 p5 p6) M = .ok (.loc 3) M := rfl
    simp only [L__law_built_10, sExpr_eq, dMl_eq, hv1, bind_ok', m1, hr, m2, to_ok]
  · rw [List.getElem?_set_self (by rw [lM1]; omega), eW_cons]
  · simp only [nums, List.nodup_cons, List.mem_cons, not_or] at h2 ⊢
    refine ⟨⟨by omega, by omega, by omega, h2.1⟩, ⟨by omega, by omega, fun z => absurd (hlt _ z) (by omega)⟩, ⟨by omega, fun z => absurd (hlt _ z) (by omega)⟩, fun z => absurd (hlt _ z) (by omega), h2.2⟩
  · refine ⟨?_, ?_, ?_, h3.mono fun x hx => ?_⟩
    · rw [List.getElem?_set_ne (show 3 ≠ M.length + 2 by omega)]; exact g2
    · rw [List.getElem?_set_ne (show 3 ≠ M.length by omega)]; exact g0
    · rw [List.getElem?_set_ne (show 3 ≠ M.length + 1 by omega)]; exact g1
    · have : 3 ≠ x := fun q => (List.nodup_cons.mp h2).1 (q ▸ hx)
      rw [List.getElem?_set_ne this]
      exact g x (hlt x hx)
theorem b_or (n : Nat) (s : W) (t : Tk) (p3 p4 p5 p6 : Option W) (M : Mem) (es : List En) (hd : Tk) (full : List (List Pc)) (ps : List Pc) (fs : List Fr) (base : List Pc) (h : BInv M es ⟨⟨hd, full, ps⟩ :: fs, base⟩) (hb : full.length ≤ 1000) (hb2 : ps.length ≤ 1000000) :
    ∃ M' es', L__law_built_7 (TT n) (BR s t p3 p4 p5 p6) M = .nx (BR s t p3 p4 p5 p6) M' ∧ BInv M' es' ⟨⟨hd, full ++ [ps], []⟩ :: fs, base⟩ ∧ es'.length = es.length := by
  obtain ⟨e0, es0, q1, q2⟩ := h.top
  subst q1
  obtain ⟨h1, h2, h3⟩ := h
  obtain ⟨a, b, c, d⟩ := h3
  obtain ⟨k, u, p⟩ := e0
  simp only at a b c q2
  have hlt := BOk.lt (es := (k, u, p) :: es0) (fs := frs ⟨⟨hd, full, ps⟩ :: fs, base⟩) ⟨a, b, c, d⟩
  have l3 : 3 < M.length := (List.getElem?_eq_some_iff.mp h1).1
  have lk : k < M.length := (List.getElem?_eq_some_iff.mp a).1
  have lu : u < M.length := (List.getElem?_eq_some_iff.mp b).1
  have h2' := h2
  simp only [nums, List.nodup_cons, List.mem_cons, not_or] at h2
  obtain ⟨⟨n1, n2, n3, n4⟩, ⟨k1, k2, k3⟩, ⟨u1, u2⟩, p1, nd⟩ := h2
  let M1 : Mem := M.set u (.lst (rsW full ++ [rW ps]))
  let M2 : Mem := M1 ++ [.lst []]
  have lM1 : M1.length = M.length := by simp [M1]
  have gM1 : ∀ x, u ≠ x → M1[x]? = M[x]? := fun x h => List.getElem?_set_ne h
  have gM2 : ∀ x, x < M.length → u ≠ x → M2[x]? = M[x]? := fun x h h' => (List.getElem?_append_left (by rw [lM1]; exact h)).trans (gM1 x h')
  have gu : M2[u]? = some (.lst (rsW full ++ [rW ps])) := (List.getElem?_append_left (by rw [lM1]; exact lu)).trans (List.getElem?_set_self lu)
  have gn : M2[M.length]? = some (.lst []) := by
    show (M1 ++ [Cell.lst []])[M.length]? = _
    rw [← lM1, List.getElem?_append_right (Nat.le_refl _), Nat.sub_self]; rfl
  have i1 : vIx (.loc 3) (.int (-1)) M = .ok (.loc k) M := ix_cell h1 q2
  have i2 : vIx (.loc k) (.int 1) M = .ok (.loc u) M := ix_cell a rfl
  have i3 : vIx (.loc k) (.int 2) M = .ok (.loc p) M := ix_cell a rfl
  have ft : fTuple [.loc p] M = .ok (rW ps) M := by
    show (match cellL M[p]? with | some ws => Res.ok (W.tup ws) M | none => .bad) = _
    rw [c]; rfl
  have m1 : ∀ r, mlk fAppend r (.loc u) M = (r M).bind (mlk2 fAppend (.loc u)) := fun r => mlk_at b
  have m2 : mlk2 fAppend (.loc u) [rW ps] M = .ok .non M1 := by
    rw [mlk2_at b, append_ok (by rw [rsW_len]; omega)]
  have h3' : M2[3]? = some (.lst (eW ((k, u, p) :: es0))) := (gM2 3 l3 (fun q => n2 q.symm)).trans h1
  have j1 : vIx (.loc 3) (.int (-1)) M2 = .ok (.loc k) M2 := ix_cell h3' q2
  have ak : M2[k]? = some (.lst [tW hd, .loc u, .loc p]) := (gM2 k lk (fun q => k1 q.symm)).trans a
  have ac : asC M2 (.loc k) = some (k, [tW hd, .loc u, .loc p]) := by
    show (cellL M2[k]?).map _ = _
    rw [ak]; rfl
  have s0 : (0 : Nat) ≤ 16777216 := by decide
  have ai : asI (W.int 2) = some 2 := rfl
  have ij : ixN 3 2 = some 2 := rfl
  refine ⟨M2.set k (.lst [tW hd, .loc u, .loc M.length]), (k, u, M.length) :: es0, ?_, ⟨?_, ?_, ?_⟩, rfl⟩
  · have e1 : sExpr (dMl fAppend (dBin vIx (dBin vIx (dVar 1) (dNeg (dC (.int 1)))) (dC (.int 1))) (dCons (dCall fTuple (dCons (dBin vIx (dBin vIx (dVar 1) (dNeg (dC (.int 1)))) (dC (.int 2))) (dNil))) (dNil))) (BR s t p3 p4 p5 p6) M = .nx (BR s t p3 p4 p5 p6) M1 := by
      simp only [bind_ok', bind_bad', bind_exc', to_ok, to_bad, to_exc, seq_nx, seq_rt, seq_bk, seq_ct, seq_bad, seq_exc, fin_nx, fin_rt, fin_exc, run_eq, sSeq_eq, sNext_eq, sIf_eq, sSet_eq, sAug_eq, sRet_eq, sRetN_eq, sExpr_eq, sFor_eq, loop_nil, gN_eq, var_0, var_s, dC_eq, dBin_eq, dNot_eq, dAnd_eq, dOr_eq, dAndV_eq, dOrV_eq, dNotV_eq, dIf_eq, asBool_bl, toB_eq, dNil_eq, dCons_eq, dCall_eq, dTup_eq, dLst_eq, dImm_eq, dMut_eq, dStill_eq, dRange1_eq, dRange2_eq, add_ii, iadd_ii, sub_ii, and_ii, dNeg_eq, neg_i, cmp_ii, cmp_ss, eq_ii, eq_ss, eq_bb, len_t, len_l, len_f, max2_ii, min2_ii, int_b, dIsT_eq, isT_b, isT_i, isT_s, isT_n, isT_t, isT_l, dSl_eq, oNone_eq, oSome_eq, optI_i, sl_t, sl_l, sl_f, dM1_eq, dM1L_eq, m1k_s, f2_ss, dComp_eq, nox_ok, dYes_eq, dMl_eq, mlk_0, mlk2_0, mlk_1, mlk2_1, pop_ok, clear_ok, isT_loc0, isT_f, len_loc0, seqW_l, seqW_t, seqW_f, seqW_sg, is_nn, is_tn, when_true, nc0, nc1, nc2, nc3, nc4, nc5, nc6, nc7, nc8, ofStr_beq, dPick_eq, ofStr_eq, ixt0, ixt1, ixt2, ixt3, ixl0, ixl1, ixl2, ixl3, dEnumT_eq, enumK_t, pair_tt, dFld_eq, sFld_eq, sFldA_eq, dMeth_eq, List.map_cons, List.map_nil, List.length_cons, List.length_nil, List.replicate_succ, List.replicate_zero, List.cons_append, List.nil_append, List.set_cons_zero, List.set_cons_succ, Nat.reduceSub, Nat.reduceAdd, Nat.zero_add, if_true, Bool.false_eq_true, if_false, decide_true, decide_false, Bool.not_true, Bool.not_false, id, reduceIte, start_eq, List.length_map, Nat.reduceLeDiff, Int.reduceBEq, Bool.or_true, Bool.true_or, Bool.or_false, Bool.false_or, Bool.and_true, Bool.true_and, Bool.and_false, Bool.false_and, line_eq, reduceCtorEq, String.reduceEq, i1, i2, i3, ft, m1, m2]
    have e2 : sPut (dMut (dLst (dNil))) (dBin vIx (dVar 1) (dNeg (dC (.int 1)))) (dC (.int 2)) (BR s t p3 p4 p5 p6) M1 = .nx (BR s t p3 p4 p5 p6) (M2.set k (.lst [tW hd, .loc u, .loc M.length])) := by
      unfold sPut
      have hm : dMut (dLst dNil) (BR s t p3 p4 p5 p6) M1 = .ok (.loc M.length) M2 := by
        simp only [dMut_eq, dLst_eq, dNil_eq, bind_ok', List.length_nil, line_eq, s0, if_true, lM1]
        rfl
      rw [hm]
      simp only [bind_ok', bind_bad', bind_exc', to_ok, to_bad, to_exc, seq_nx, seq_rt, seq_bk, seq_ct, seq_bad, seq_exc, fin_nx, fin_rt, fin_exc, run_eq, sSeq_eq, sNext_eq, sIf_eq, sSet_eq, sAug_eq, sRet_eq, sRetN_eq, sExpr_eq, sFor_eq, loop_nil, gN_eq, var_0, var_s, dC_eq, dBin_eq, dNot_eq, dAnd_eq, dOr_eq, dAndV_eq, dOrV_eq, dNotV_eq, dIf_eq, asBool_bl, toB_eq, dNil_eq, dCons_eq, dCall_eq, dTup_eq, dLst_eq, dImm_eq, dMut_eq, dStill_eq, dRange1_eq, dRange2_eq, add_ii, iadd_ii, sub_ii, and_ii, dNeg_eq, neg_i, cmp_ii, cmp_ss, eq_ii, eq_ss, eq_bb, len_t, len_l, len_f, max2_ii, min2_ii, int_b, dIsT_eq, isT_b, isT_i, isT_s, isT_n, isT_t, isT_l, dSl_eq, oNone_eq, oSome_eq, optI_i, sl_t, sl_l, sl_f, dM1_eq, dM1L_eq, m1k_s, f2_ss, dComp_eq, nox_ok, dYes_eq, dMl_eq, mlk_0, mlk2_0, mlk_1, mlk2_1, pop_ok, clear_ok, isT_loc0, isT_f, len_loc0, seqW_l, seqW_t, seqW_f, seqW_sg, is_nn, is_tn, when_true, nc0, nc1, nc2, nc3, nc4, nc5, nc6, nc7, nc8, ofStr_beq, dPick_eq, ofStr_eq, ixt0, ixt1, ixt2, ixt3, ixl0, ixl1, ixl2, ixl3, dEnumT_eq, enumK_t, pair_tt, dFld_eq, sFld_eq, sFldA_eq, dMeth_eq, List.map_cons, List.map_nil, List.length_cons, List.length_nil, List.replicate_succ, List.replicate_zero, List.cons_append, List.nil_append, List.set_cons_zero, List.set_cons_succ, Nat.reduceSub, Nat.reduceAdd, Nat.zero_add, if_true, Bool.false_eq_true, if_false, decide_true, decide_false, Bool.not_true, Bool.not_false, id, reduceIte, start_eq, List.length_map, Nat.reduceLeDiff, Int.reduceBEq, Bool.or_true, Bool.true_or, Bool.or_false, Bool.false_or, Bool.and_true, Bool.true_and, Bool.and_false, Bool.false_and, line_eq, reduceCtorEq, String.reduceEq, j1, ac, ai, ij]
    rw [L__law_built_7, sSeq_eq, e1, seq_nx, e2]
  · rw [List.getElem?_set_ne (fun q => n1 q.symm)]; exact h3'
  · simp only [nums, List.nodup_cons, List.mem_cons, not_or]
    have no : M.length ∉ nums es0 := fun z => Nat.lt_irrefl _ (hlt M.length (List.mem_cons_of_mem _ (List.mem_cons_of_mem _ (List.mem_cons_of_mem _ z))))
    exact ⟨⟨n1, n2, by omega, n4⟩, ⟨k1, by omega, k3⟩, ⟨by omega, u2⟩, no, nd⟩
  · have lM2 : M2.length = M.length + 1 := by simp [M2, lM1]
    refine ⟨?_, ?_, ?_, d.mono fun x hx => ?_⟩
    · exact List.getElem?_set_self (by rw [lM2]; omega)
    · rw [List.getElem?_set_ne (show k ≠ u from k1)]
      show M2[u]? = some (.lst (rsW (full ++ [ps])))
      rw [rsW_append]; exact gu
    · rw [List.getElem?_set_ne (show k ≠ M.length by omega)]; exact gn
    · have q1 : k ≠ x := fun q => k3 (q ▸ hx)
      have q2 : u ≠ x := fun q => u2 (q ▸ hx)
      rw [List.getElem?_set_ne q1]
      exact gM2 x (hlt x (by simp [nums, hx])) q2
theorem b_close (n : Nat) (s : W) (t : Tk) (p3 p4 p5 p6 : Option W) (M : Mem) (es : List En) (hd : Tk) (full : List (List Pc)) (ps : List Pc) (fs : List Fr) (base : List Pc) (pc : Pc) (h : BInv M es ⟨⟨hd, full, ps⟩ :: fs, base⟩) (hb : full.length ≤ 1000) (hb2 : ∀ f ∈ frs ⟨fs, base⟩, f.2.2.length ≤ 1000000)
    (hp : (hd = .opn ∧ full = [] ∧ pc = .grp ps) ∨ (∃ n, hd = .hng n ∧ full = [] ∧ pc = .hng n ps) ∨ (hd = .eit ∧ pc = .eit (full ++ [ps]))) :
    ∃ M' es' p3' p4' p5' p6', L__law_built_4 (TT n) (BR s t p3 p4 p5 p6) M = .nx (BR s t p3' p4' p5' p6') M' ∧ BInv M' es' ((⟨fs, base⟩ : St0).push pc) ∧ es'.length + 1 = es.length := by
  obtain ⟨e0, es0, q1, q2⟩ := h.top
  subst q1
  obtain ⟨h1, h2, h3⟩ := h
  obtain ⟨a, b, c, d⟩ := h3
  obtain ⟨k, u, p⟩ := e0
  simp only at a b c q2
  have l3 : 3 < M.length := (List.getElem?_eq_some_iff.mp h1).1
  have h2' := h2
  simp only [nums, List.nodup_cons, List.mem_cons, not_or] at h2
  obtain ⟨⟨n1, n2, n3, n4⟩, ⟨k1, k2, k3⟩, ⟨u1, u2⟩, p1, nd⟩ := h2
  have gM1 : ∀ x, 3 ≠ x → (M.set 3 (.lst (eW es0)))[x]? = M[x]? := fun x h => List.getElem?_set_ne h
  have inv : BInv (M.set 3 (.lst (eW es0))) es0 ⟨fs, base⟩ := ⟨List.getElem?_set_self l3, List.nodup_cons.mpr ⟨n4, nd⟩, d.mono fun x hx => gM1 x fun q => n4 (q ▸ hx)⟩
  have hpop : mlk fPop (fun M => .ok [] M) (.loc 3) M = .ok (.loc k) (M.set 3 (.lst (eW es0))) := by
    rw [mlk_at h1, bind_ok', mlk2_at h1, eW_cons]
    exact pop_ok
  have g1 : (M.set 3 (.lst (eW es0)))[k]? = some (.lst [tW hd, .loc u, .loc p]) := (gM1 k n1).trans a
  have g2 : (M.set 3 (.lst (eW es0)))[u]? = some (.lst (rsW full)) := (gM1 u n2).trans b
  have g3 : (M.set 3 (.lst (eW es0)))[p]? = some (.lst (psW ps)) := (gM1 p n3).trans c
  generalize hM1 : M.set 3 (.lst (eW es0)) = M1 at *
  have hg : ∀ ρ, gU [3, 4, 5] (.loc k) ρ M1 = some (((ρ.set 3 (some (tW hd))).set 4 (some (.loc u))).set 5 (some (.loc p))) := fun ρ => by
    unfold gU
    have e : asQ M1 (.loc k) = some [tW hd, .loc u, .loc p] := by show cellL M1[k]? = _; rw [g1]; rfl
    rw [e]; rfl
  have s1 : (1 : Nat) ≤ 16777216 := by decide
  have s2 : (2 : Nat) ≤ 16777216 := by decide
  have S1 : sAsg (gU [3, 4, 5]) (dMl fPop (dVar 1) (dNil)) (BR s t p3 p4 p5 p6) M = .nx (BR s t (some (tW hd)) (some (.loc u)) (some (.loc p)) p6) M1 := by
    have hv : dVar 1 (BR s t p3 p4 p5 p6) M = .ok (.loc 3) M := rfl
    have hn : dNil (BR s t p3 p4 p5 p6) = fun M => .ok [] M := rfl
    unfold sAsg
    rw [dMl_eq, hv, bind_ok', hn, hpop, to_ok, hg]
    rfl
  have ft : fTuple [.loc p] M1 = .ok (rW ps) M1 := by
    show (match cellL M1[p]? with | some ws => Res.ok (W.tup ws) M1 | none => .bad) = _
    rw [g3]; rfl
  have hadd : vAdd (.loc u) (.lst [rW ps]) M1 = .ok (.lst (rsW full ++ [rW ps])) M1 := by
    have e1 : asL M1 (.loc u) = some (rsW full) := asL_cell g2
    show (match asL M1 (.loc u), asL M1 (.lst [rW ps]) with | some xs, some ys => Res.when (xs.length + ys.length ≤ sizeLine) (Res.ok (W.lst (xs ++ ys)) M1) | _, _ => .bad) = _
    rw [e1]
    exact when_t (by rw [sizeLine_eq, rsW_len]; simp; omega)
  have S2 : sSet 4 (dBin vAdd (dVar 4) (dImm (dLst (dCons (dCall fTuple (dCons (dVar 5) (dNil))) (dNil))))) (BR s t (some (tW hd)) (some (.loc u)) (some (.loc p)) p6) M1 = .nx (BR s t (some (tW hd)) (some (.lst (rsW full ++ [rW ps]))) (some (.loc p)) p6) M1 := by
    simp only [bind_ok', bind_bad', bind_exc', to_ok, to_bad, to_exc, seq_nx, seq_rt, seq_bk, seq_ct, seq_bad, seq_exc, fin_nx, fin_rt, fin_exc, run_eq, sSeq_eq, sNext_eq, sIf_eq, sSet_eq, sAug_eq, sRet_eq, sRetN_eq, sExpr_eq, sFor_eq, loop_nil, gN_eq, var_0, var_s, dC_eq, dBin_eq, dNot_eq, dAnd_eq, dOr_eq, dAndV_eq, dOrV_eq, dNotV_eq, dIf_eq, asBool_bl, toB_eq, dNil_eq, dCons_eq, dCall_eq, dTup_eq, dLst_eq, dImm_eq, dMut_eq, dStill_eq, dRange1_eq, dRange2_eq, add_ii, iadd_ii, sub_ii, and_ii, dNeg_eq, neg_i, cmp_ii, cmp_ss, eq_ii, eq_ss, eq_bb, len_t, len_l, len_f, max2_ii, min2_ii, int_b, dIsT_eq, isT_b, isT_i, isT_s, isT_n, isT_t, isT_l, dSl_eq, oNone_eq, oSome_eq, optI_i, sl_t, sl_l, sl_f, dM1_eq, dM1L_eq, m1k_s, f2_ss, dComp_eq, nox_ok, dYes_eq, dMl_eq, mlk_0, mlk2_0, mlk_1, mlk2_1, pop_ok, clear_ok, isT_loc0, isT_f, len_loc0, seqW_l, seqW_t, seqW_f, seqW_sg, is_nn, is_tn, when_true, nc0, nc1, nc2, nc3, nc4, nc5, nc6, nc7, nc8, ofStr_beq, dPick_eq, ofStr_eq, ixt0, ixt1, ixt2, ixt3, ixl0, ixl1, ixl2, ixl3, dEnumT_eq, enumK_t, pair_tt, dFld_eq, sFld_eq, sFldA_eq, dMeth_eq, List.map_cons, List.map_nil, List.length_cons, List.length_nil, List.replicate_succ, List.replicate_zero, List.cons_append, List.nil_append, List.set_cons_zero, List.set_cons_succ, Nat.reduceSub, Nat.reduceAdd, Nat.zero_add, if_true, Bool.false_eq_true, if_false, decide_true, decide_false, Bool.not_true, Bool.not_false, id, reduceIte, start_eq, List.length_map, Nat.reduceLeDiff, Int.reduceBEq, Bool.or_true, Bool.true_or, Bool.or_false, Bool.false_or, Bool.and_true, Bool.true_and, Bool.and_false, Bool.false_and, line_eq, reduceCtorEq, String.reduceEq, s1, ft, hadd]
  have ft2 : fTuple [.lst (rsW full ++ [rW ps])] M1 = .ok (.tup (rsW full ++ [rW ps])) M1 := rfl
  have S3 : sSet 6 (dTup (dCons (dC (.str "either")) (dCons (dCall fTuple (dCons (dVar 4) (dNil))) (dNil)))) (BR s t (some (tW hd)) (some (.lst (rsW full ++ [rW ps]))) (some (.loc p)) p6) M1 = .nx (BR s t (some (tW hd)) (some (.lst (rsW full ++ [rW ps]))) (some (.loc p)) (some (.tup [.str (Str.ofString "either"), .tup (rsW full ++ [rW ps])]))) M1 := by
    simp only [bind_ok', bind_bad', bind_exc', to_ok, to_bad, to_exc, seq_nx, seq_rt, seq_bk, seq_ct, seq_bad, seq_exc, fin_nx, fin_rt, fin_exc, run_eq, sSeq_eq, sNext_eq, sIf_eq, sSet_eq, sAug_eq, sRet_eq, sRetN_eq, sExpr_eq, sFor_eq, loop_nil, gN_eq, var_0, var_s, dC_eq, dBin_eq, dNot_eq, dAnd_eq, dOr_eq, dAndV_eq, dOrV_eq, dNotV_eq, dIf_eq, asBool_bl, toB_eq, dNil_eq, dCons_eq, dCall_eq, dTup_eq, dLst_eq, dImm_eq, dMut_eq, dStill_eq, dRange1_eq, dRange2_eq, add_ii, iadd_ii, sub_ii, and_ii, dNeg_eq, neg_i, cmp_ii, cmp_ss, eq_ii, eq_ss, eq_bb, len_t, len_l, len_f, max2_ii, min2_ii, int_b, dIsT_eq, isT_b, isT_i, isT_s, isT_n, isT_t, isT_l, dSl_eq, oNone_eq, oSome_eq, optI_i, sl_t, sl_l, sl_f, dM1_eq, dM1L_eq, m1k_s, f2_ss, dComp_eq, nox_ok, dYes_eq, dMl_eq, mlk_0, mlk2_0, mlk_1, mlk2_1, pop_ok, clear_ok, isT_loc0, isT_f, len_loc0, seqW_l, seqW_t, seqW_f, seqW_sg, is_nn, is_tn, when_true, nc0, nc1, nc2, nc3, nc4, nc5, nc6, nc7, nc8, ofStr_beq, dPick_eq, ofStr_eq, ixt0, ixt1, ixt2, ixt3, ixl0, ixl1, ixl2, ixl3, dEnumT_eq, enumK_t, pair_tt, dFld_eq, sFld_eq, sFldA_eq, dMeth_eq, List.map_cons, List.map_nil, List.length_cons, List.length_nil, List.replicate_succ, List.replicate_zero, List.cons_append, List.nil_append, List.set_cons_zero, List.set_cons_succ, Nat.reduceSub, Nat.reduceAdd, Nat.zero_add, if_true, Bool.false_eq_true, if_false, decide_true, decide_false, Bool.not_true, Bool.not_false, id, reduceIte, start_eq, List.length_map, Nat.reduceLeDiff, Int.reduceBEq, Bool.or_true, Bool.true_or, Bool.or_false, Bool.false_or, Bool.and_true, Bool.true_and, Bool.and_false, Bool.false_and, line_eq, reduceCtorEq, String.reduceEq, s2, ft2]
  have h0 := tW_0 hd
  have S4 : sIf (L__law_built_1 (TT n)) (L__law_built_2 (TT n)) (sNext) (BR s t (some (tW hd)) (some (.lst (rsW full ++ [rW ps]))) (some (.loc p)) (some (.tup [.str (Str.ofString "either"), .tup (rsW full ++ [rW ps])]))) M1 = .nx (BR s t (some (tW hd)) (some (.lst (rsW full ++ [rW ps]))) (some (.loc p)) (some (pW pc))) M1 := by
    have i0 : ∀ x y : W, atI [x, y] 0 = some x := fun _ _ => rfl
    have i1 : ∀ x y : W, atI [x, y] 1 = some y := fun _ _ => rfl
    have iz : ∀ x : W, atI [x] 0 = some x := fun _ => rfl
    have cz : ∀ x : W, cutW [x] (some 1) none = [] := fun _ => rfl
    have c2 : ∀ x y : W, cutW [x, y] (some 1) none = [y] := fun _ _ => rfl
    have t10 : (1 : Nat) + 0 ≤ 16777216 := by decide
    have t11 : (1 : Nat) + 1 ≤ 16777216 := by decide
    have t21 : (2 : Nat) + 1 ≤ 16777216 := by decide
    have a1 : ∀ (x : W) (M : Mem), vAdd (.tup [x]) (.tup []) M = .ok (.tup [x]) M := fun _ _ => when_t (by rw [sizeLine_eq]; exact t10)
    have a2 : ∀ (x y : W) (M : Mem), vAdd (.tup [x]) (.tup [y]) M = .ok (.tup [x, y]) M := fun _ _ _ => when_t (by rw [sizeLine_eq]; exact t11)
    have a3 : ∀ (x y z : W) (M : Mem), vAdd (.tup [x, y]) (.tup [z]) M = .ok (.tup [x, y, z]) M := fun _ _ _ _ => when_t (by rw [sizeLine_eq]; exact t21)
    rcases hp with ⟨rfl, rfl, rfl⟩ | ⟨m, rfl, rfl, rfl⟩ | ⟨rfl, rfl⟩
    · have lz : vIx (.lst (rsW [] ++ [rW ps])) (.int 0) M1 = .ok (rW ps) M1 := ix_l rfl
      simp only [tW, headS] at h0 ⊢
      simp only [L__law_built_1, L__law_built_2, bind_ok', bind_bad', bind_exc', to_ok, to_bad, to_exc, seq_nx, seq_rt, seq_bk, seq_ct, seq_bad, seq_exc, fin_nx, fin_rt, fin_exc, run_eq, sSeq_eq, sNext_eq, sIf_eq, sSet_eq, sAug_eq, sRet_eq, sRetN_eq, sExpr_eq, sFor_eq, loop_nil, gN_eq, var_0, var_s, dC_eq, dBin_eq, dNot_eq, dAnd_eq, dOr_eq, dAndV_eq, dOrV_eq, dNotV_eq, dIf_eq, asBool_bl, toB_eq, dNil_eq, dCons_eq, dCall_eq, dTup_eq, dLst_eq, dImm_eq, dMut_eq, dStill_eq, dRange1_eq, dRange2_eq, add_ii, iadd_ii, sub_ii, and_ii, dNeg_eq, neg_i, cmp_ii, cmp_ss, eq_ii, eq_ss, eq_bb, len_t, len_l, len_f, max2_ii, min2_ii, int_b, dIsT_eq, isT_b, isT_i, isT_s, isT_n, isT_t, isT_l, dSl_eq, oNone_eq, oSome_eq, optI_i, sl_t, sl_l, sl_f, dM1_eq, dM1L_eq, m1k_s, f2_ss, dComp_eq, nox_ok, dYes_eq, dMl_eq, mlk_0, mlk2_0, mlk_1, mlk2_1, pop_ok, clear_ok, isT_loc0, isT_f, len_loc0, seqW_l, seqW_t, seqW_f, seqW_sg, is_nn, is_tn, when_true, nc0, nc1, nc2, nc3, nc4, nc5, nc6, nc7, nc8, ofStr_beq, dPick_eq, ofStr_eq, ixt0, ixt1, ixt2, ixt3, ixl0, ixl1, ixl2, ixl3, dEnumT_eq, enumK_t, pair_tt, dFld_eq, sFld_eq, sFldA_eq, dMeth_eq, List.map_cons, List.map_nil, List.length_cons, List.length_nil, List.replicate_succ, List.replicate_zero, List.cons_append, List.nil_append, List.set_cons_zero, List.set_cons_succ, Nat.reduceSub, Nat.reduceAdd, Nat.zero_add, if_true, Bool.false_eq_true, if_false, decide_true, decide_false, Bool.not_true, Bool.not_false, id, reduceIte, start_eq, List.length_map, Nat.reduceLeDiff, Int.reduceBEq, Bool.or_true, Bool.true_or, Bool.or_false, Bool.false_or, Bool.and_true, Bool.true_and, Bool.and_false, Bool.false_and, line_eq, reduceCtorEq, String.reduceEq, h0, lz, ix_l (i0 _ _), s1, s2, cz, a1, a2, pW]
    · have lz : vIx (.lst (rsW [] ++ [rW ps])) (.int 0) M1 = .ok (rW ps) M1 := ix_l rfl
      simp only [tW, headS] at h0 ⊢
      simp only [L__law_built_1, L__law_built_2, bind_ok', bind_bad', bind_exc', to_ok, to_bad, to_exc, seq_nx, seq_rt, seq_bk, seq_ct, seq_bad, seq_exc, fin_nx, fin_rt, fin_exc, run_eq, sSeq_eq, sNext_eq, sIf_eq, sSet_eq, sAug_eq, sRet_eq, sRetN_eq, sExpr_eq, sFor_eq, loop_nil, gN_eq, var_0, var_s, dC_eq, dBin_eq, dNot_eq, dAnd_eq, dOr_eq, dAndV_eq, dOrV_eq, dNotV_eq, dIf_eq, asBool_bl, toB_eq, dNil_eq, dCons_eq, dCall_eq, dTup_eq, dLst_eq, dImm_eq, dMut_eq, dStill_eq, dRange1_eq, dRange2_eq, add_ii, iadd_ii, sub_ii, and_ii, dNeg_eq, neg_i, cmp_ii, cmp_ss, eq_ii, eq_ss, eq_bb, len_t, len_l, len_f, max2_ii, min2_ii, int_b, dIsT_eq, isT_b, isT_i, isT_s, isT_n, isT_t, isT_l, dSl_eq, oNone_eq, oSome_eq, optI_i, sl_t, sl_l, sl_f, dM1_eq, dM1L_eq, m1k_s, f2_ss, dComp_eq, nox_ok, dYes_eq, dMl_eq, mlk_0, mlk2_0, mlk_1, mlk2_1, pop_ok, clear_ok, isT_loc0, isT_f, len_loc0, seqW_l, seqW_t, seqW_f, seqW_sg, is_nn, is_tn, when_true, nc0, nc1, nc2, nc3, nc4, nc5, nc6, nc7, nc8, ofStr_beq, dPick_eq, ofStr_eq, ixt0, ixt1, ixt2, ixt3, ixl0, ixl1, ixl2, ixl3, dEnumT_eq, enumK_t, pair_tt, dFld_eq, sFld_eq, sFldA_eq, dMeth_eq, List.map_cons, List.map_nil, List.length_cons, List.length_nil, List.replicate_succ, List.replicate_zero, List.cons_append, List.nil_append, List.set_cons_zero, List.set_cons_succ, Nat.reduceSub, Nat.reduceAdd, Nat.zero_add, if_true, Bool.false_eq_true, if_false, decide_true, decide_false, Bool.not_true, Bool.not_false, id, reduceIte, start_eq, List.length_map, Nat.reduceLeDiff, Int.reduceBEq, Bool.or_true, Bool.true_or, Bool.or_false, Bool.false_or, Bool.and_true, Bool.true_and, Bool.and_false, Bool.false_and, line_eq, reduceCtorEq, String.reduceEq, h0, lz, ix_l (i1 _ _), s1, s2, c2, a2, a3, pW]
    · have e : pW (.eit (full ++ [ps])) = .tup [.str (Str.ofString "either"), .tup (rsW full ++ [rW ps])] := by
        show W.tup [_, .tup (rsW (full ++ [ps]))] = _
        rw [rsW_append]; rfl
      rw [e]
      simp only [tW, headS] at h0 ⊢
      simp only [L__law_built_1, bind_ok', bind_bad', bind_exc', to_ok, to_bad, to_exc, seq_nx, seq_rt, seq_bk, seq_ct, seq_bad, seq_exc, fin_nx, fin_rt, fin_exc, run_eq, sSeq_eq, sNext_eq, sIf_eq, sSet_eq, sAug_eq, sRet_eq, sRetN_eq, sExpr_eq, sFor_eq, loop_nil, gN_eq, var_0, var_s, dC_eq, dBin_eq, dNot_eq, dAnd_eq, dOr_eq, dAndV_eq, dOrV_eq, dNotV_eq, dIf_eq, asBool_bl, toB_eq, dNil_eq, dCons_eq, dCall_eq, dTup_eq, dLst_eq, dImm_eq, dMut_eq, dStill_eq, dRange1_eq, dRange2_eq, add_ii, iadd_ii, sub_ii, and_ii, dNeg_eq, neg_i, cmp_ii, cmp_ss, eq_ii, eq_ss, eq_bb, len_t, len_l, len_f, max2_ii, min2_ii, int_b, dIsT_eq, isT_b, isT_i, isT_s, isT_n, isT_t, isT_l, dSl_eq, oNone_eq, oSome_eq, optI_i, sl_t, sl_l, sl_f, dM1_eq, dM1L_eq, m1k_s, f2_ss, dComp_eq, nox_ok, dYes_eq, dMl_eq, mlk_0, mlk2_0, mlk_1, mlk2_1, pop_ok, clear_ok, isT_loc0, isT_f, len_loc0, seqW_l, seqW_t, seqW_f, seqW_sg, is_nn, is_tn, when_true, nc0, nc1, nc2, nc3, nc4, nc5, nc6, nc7, nc8, ofStr_beq, dPick_eq, ofStr_eq, ixt0, ixt1, ixt2, ixt3, ixl0, ixl1, ixl2, ixl3, dEnumT_eq, enumK_t, pair_tt, dFld_eq, sFld_eq, sFldA_eq, dMeth_eq, List.map_cons, List.map_nil, List.length_cons, List.length_nil, List.replicate_succ, List.replicate_zero, List.cons_append, List.nil_append, List.set_cons_zero, List.set_cons_succ, Nat.reduceSub, Nat.reduceAdd, Nat.zero_add, if_true, Bool.false_eq_true, if_false, decide_true, decide_false, Bool.not_true, Bool.not_false, id, reduceIte, start_eq, List.length_map, Nat.reduceLeDiff, Int.reduceBEq, Bool.or_true, Bool.true_or, Bool.or_false, Bool.false_or, Bool.and_true, Bool.true_and, Bool.and_false, Bool.false_and, line_eq, reduceCtorEq, String.reduceEq, h0]
  obtain ⟨M', r1, r2, _⟩ := put_top s t (some (tW hd)) (some (.lst (rsW full ++ [rW ps]))) (some (.loc p)) (some (pW pc)) M1 es0 ⟨fs, base⟩ inv pc (dVar 6) hb2 (fun _ => rfl)
  refine ⟨M', es0, some (tW hd), some (.lst (rsW full ++ [rW ps])), some (.loc p), some (pW pc), ?_, r2, rfl⟩
  rw [L__law_built_4, sSeq_eq, S1, seq_nx, sSeq_eq, S2, seq_nx, sSeq_eq, S3, seq_nx, sSeq_eq, S4, seq_nx]
  exact r1
theorem frs_tk (st : St0) : ∀ f ∈ frs st, f.2.2.length ≤ (tkS st).length ∧ f.2.1.length ≤ (tkS st).length := by
  have tp : ∀ p : Pc, 1 ≤ (tkP p).length := fun p => by cases p <;> simp [tkP]
  have tr : ∀ r : List Pc, r.length ≤ (tkR r).length := fun r => by
    induction r with
    | nil => exact Nat.le_refl _
    | cons p r ih =>
      have := tp p
      simp only [tkR, List.length_cons, List.length_append]; omega
  have te : ∀ rs : List (List Pc), rs.length ≤ (tkE1 rs).length := fun rs => by
    induction rs with
    | nil => exact Nat.le_refl _
    | cons r rs ih => simp only [tkE1, List.length_cons, List.length_append]; omega
  have tf : ∀ f : Fr, f.parts.length ≤ (tkF f).length ∧ f.full.length ≤ (tkF f).length := fun f => by
    obtain ⟨hd, full, ps⟩ := f
    have h1 := tr ps
    cases full with
    | nil => simp only [tkF, List.length_cons, List.length_nil]; omega
    | cons r rs =>
      have h2 := te rs
      simp only [tkF, List.length_cons, List.length_append]; omega
  obtain ⟨fs, base⟩ := st
  intro f hf
  rcases List.mem_append.mp hf with h | h
  · obtain ⟨g, hg, rfl⟩ := List.mem_map.mp h
    have hg2 := tf g
    have : (tkF g).length ≤ (tkFs fs).length := by
      clear hf h
      induction fs with
      | nil => cases hg
      | cons x fs ih =>
        simp only [tkFs, List.length_append]
        rcases List.mem_cons.mp hg with e | e
        · subst e; omega
        · have := ih e; omega
    simp only [tkS, List.length_append]
    omega
  · rw [List.mem_singleton.mp h]
    have := tr base
    simp only [tkS, List.length_append, List.length_nil]
    omega
/-- one token -/
theorem b_turn (n : Nat) (s : W) (t : Tk) (p2 p3 p4 p5 p6 : Option W) (M : Mem) (es : List En) (st st' : St0) (h : BInv M es st) (hs : step st t = some st') (hok : okS st = true) (he : es.length ≤ 1000000) (hl : (tkS st).length ≤ 1000000) :
    ∃ M' es' p3' p4' p5' p6', L__law_built_12 (TT n) [some s, some (.loc 3), some (tW t), p3, p4, p5, p6] M = .nx (BR s t p3' p4' p5' p6') M' ∧ BInv M' es' st' ∧ es'.length ≤ es.length + 1 := by
  have hbp : ∀ f ∈ frs st, f.2.2.length ≤ 1000000 := fun f hf => by have := (frs_tk st f hf).1; omega
  rw [L__law_built_12, sIf_eq, show L__law_built_9 (TT n) [some s, some (.loc 3), some (tW t), p3, p4, p5, p6] M = _ from b9 _ _ _ _ _ _ _ _, to_ok]
  by_cases ho : isOpen t = true
  · rw [if_pos ho]
    obtain ⟨M', es', r1, r2, r3⟩ := b_open n s t p3 p4 p5 p6 M es st h he
    have e : st' = ⟨⟨t, [], []⟩ :: st.fs, st.base⟩ := by
      cases t <;> first | (cases hs; rfl) | cases ho
    subst e
    exact ⟨M', es', p3, p4, p5, p6, r1, r2, by omega⟩
  · rw [if_neg ho, L__law_built_11, sIf_eq, show L__law_built_6 (TT n) [some s, some (.loc 3), some (tW t), p3, p4, p5, p6] M = _ from b6 _ _ _ _ _ _ _ _, to_ok]
    by_cases hor : isOr t = true
    · rw [if_pos hor]
      have et : t = .or := by cases t <;> first | rfl | cases hor
      subst et
      obtain ⟨fs, base⟩ := st
      simp only [LP.step] at hs
      split at hs
      · rename_i xx full ps fs'
        split at hs
        case isFalse => cases hs
        rename_i hlt
        injection hs with hs
        subst hs
        obtain ⟨M', es', r1, r2, r3⟩ := b_or n s .or p3 p4 p5 p6 M es .eit full ps fs' base h (by omega) (hbp _ (List.mem_cons_self ..))
        exact ⟨M', es', p3, p4, p5, p6, r1, r2, by omega⟩
      · cases hs
    · rw [if_neg hor, L__law_built_8, sIf_eq, show L__law_built_3 (TT n) [some s, some (.loc 3), some (tW t), p3, p4, p5, p6] M = _ from b3 _ _ _ _ _ _ _ _, to_ok]
      by_cases hsh : shuts t = true
      · rw [if_pos hsh]
        obtain ⟨fs, base⟩ := st
        have tail : ∀ {f : Fr} {fs : List Fr}, (∀ g ∈ frs ⟨f :: fs, base⟩, g.2.2.length ≤ 1000000) → ∀ g ∈ frs ⟨fs, base⟩, g.2.2.length ≤ 1000000 := fun hh g hg => hh g (List.mem_cons_of_mem _ hg)
        cases t with
        | cls =>
          simp only [LP.step] at hs
          split at hs
          · rename_i xx ps fs'
            injection hs with hs
            subst hs
            obtain ⟨M', es', q3, q4, q5, q6, r1, r2, r3⟩ := b_close n s .cls p3 p4 p5 p6 M es .opn [] ps fs' base (.grp ps) h (by simp) (tail hbp) (.inl ⟨rfl, rfl, rfl⟩)
            exact ⟨M', es', q3, q4, q5, q6, r1, r2, by omega⟩
          · cases hs
        | bck =>
          simp only [LP.step] at hs
          split at hs
          · rename_i xx m ps fs'
            injection hs with hs
            subst hs
            obtain ⟨M', es', q3, q4, q5, q6, r1, r2, r3⟩ := b_close n s .bck p3 p4 p5 p6 M es (.hng m) [] ps fs' base (.hng m ps) h (by simp) (tail hbp) (.inr (.inl ⟨m, rfl, rfl, rfl⟩))
            exact ⟨M', es', q3, q4, q5, q6, r1, r2, by omega⟩
          · cases hs
        | dne =>
          simp only [LP.step] at hs
          split at hs
          · rename_i xx r rs ps fs'
            injection hs with hs
            subst hs
            have hfull : (r :: rs).length ≤ 1000 := by
              simp only [okS, List.all_cons, okF, Bool.and_eq_true, decide_eq_true_eq] at hok
              have := hok.1.1.2
              omega
            obtain ⟨M', es', q3, q4, q5, q6, r1, r2, r3⟩ := b_close n s .dne p3 p4 p5 p6 M es .eit (r :: rs) ps fs' base (.eit ((r :: rs) ++ [ps])) h hfull (tail hbp) (.inr (.inr ⟨rfl, rfl⟩))
            exact ⟨M', es', q3, q4, q5, q6, r1, r2, by omega⟩
          · cases hs
        | _ => cases hsh
      · rw [if_neg hsh]
        have lf : isLeaf t = true := by cases t <;> first | rfl | (exact absurd rfl ho) | (exact absurd rfl hor) | (exact absurd rfl hsh)
        rw [step_leaf lf] at hs
        injection hs with hs
        subst hs
        obtain ⟨M', r1, r2⟩ := b_leaf n s t p3 p4 p5 p6 M es st h lf hbp
        exact ⟨M', es, p3, p4, p5, p6, r1, r2, by omega⟩
theorem b_loop (n : Nat) (s : W) : ∀ (ts : List Tk) (st st' : St0) (M : Mem) (es : List En) (p2 p3 p4 p5 p6 : Option W), BInv M es st → LP.run st ts = some st' → okS st = true → ts.all okT = true → es.length + ts.length ≤ 1000000 → (tkS st).length + ts.length ≤ 1000000 →
    ∃ M' es' p2' p3' p4' p5' p6', loopD (gN 2) (L__law_built_12 (TT n)) (tsW ts) [some s, some (.loc 3), p2, p3, p4, p5, p6] M = .nx [some s, some (.loc 3), p2', p3', p4', p5', p6'] M' ∧ BInv M' es' st'
  | [], st, st', M, es, p2, p3, p4, p5, p6, h, hr, _, _, _, _ => by
    cases hr
    exact ⟨M, es, p2, p3, p4, p5, p6, rfl, h⟩
  | t :: ts, st, st', M, es, p2, p3, p4, p5, p6, h, hr, hok, hall, b1, b2 => by
    obtain ⟨s1, h1, h2⟩ := Option.bind_eq_some_iff.mp (show (LP.step st t).bind (fun s' => LP.run s' ts) = some st' from hr)
    rw [List.all_cons, Bool.and_eq_true] at hall
    rw [List.length_cons] at b1 b2
    obtain ⟨M1, es1, q3, q4, q5, q6, r1, r2, r3⟩ := b_turn n s t p2 p3 p4 p5 p6 M es st s1 h h1 hok (by omega) (by omega)
    obtain ⟨M', es', w2, w3, w4, w5, w6, e1, e2⟩ := b_loop n s ts s1 st' M1 es1 (some (tW t)) q3 q4 q5 q6 r2 h2 (step_ok hok hall.1 h1) hall.2 (by omega) (by rw [step_tk h1, List.length_append, List.length_singleton]; omega)
    refine ⟨M', es', w2, w3, w4, w5, w6, ?_, e2⟩
    show loopD _ _ (tW t :: tsW ts) _ _ = _
    rw [loop_nx rfl r1]
    exact e1
theorem builtC (n : Nat) (ts : List Tk) (row : List Pc) (hr : LP.run s00 ts = some ⟨[], row⟩) (hok : ts.all okT = true) (hl : ts.length ≤ 100000) (M : Mem) : callP 1 (TT (n + 1) .f__law_built) [.lst (tsW ts)] M = .ok (rW row) M := by
  let M0 : Mem := [.lst [], .lst [], .lst [topW, .loc 0, .loc 1], .lst [.loc 2]]
  have inv : BInv M0 [(2, 0, 1)] s00 := ⟨rfl, by decide, rfl, rfl, rfl, trivial⟩
  obtain ⟨M', es', w2, w3, w4, w5, w6, e1, e2⟩ := b_loop n (.lst (tsW ts)) ts s00 ⟨[], row⟩ M0 [(2, 0, 1)] none none none none none inv hr rfl hok (by simp; omega) (by simp [tkS, s00, tkFs, tkR]; omega)
  obtain ⟨e0, es0, q1, q2⟩ := e2.top
  subst q1
  obtain ⟨g1, g2, a, b, c, d⟩ := e2
  have hes : es0 = [] := by
    cases es0 with
    | nil => rfl
    | cons x xs => exact d.elim
  subst hes
  have i1 : vIx (.loc 3) (.int 0) M' = .ok (.loc e0.1) M' := ix_cell g1 rfl
  have i2 : vIx (.loc e0.1) (.int 2) M' = .ok (.loc e0.2.2) M' := ix_cell a rfl
  have ft : fTuple [.loc e0.2.2] M' = .ok (rW row) M' := by
    show (match cellL M'[e0.2.2]? with | some ws => Res.ok (W.tup ws) M' | none => .bad) = _
    rw [c]; rfl
  refine callP_ok rfl (by simp [lfs, lf, tsW_lf]) (M' := M') ?_ (psW_lf _)
  have s0 : (0 : Nat) ≤ 16777216 := by decide
  have s1 : (1 : Nat) ≤ 16777216 := by decide
  have s3 : (3 : Nat) ≤ 16777216 := by decide
  have e1' : loopD (gN 2) (L__law_built_12 (TT n)) (tsW ts) [some (.lst (tsW ts)), some (.loc 3), none, none, none, none, none] [.lst [], .lst [], .lst [.tup [.str (Str.ofString "top")], .loc 0, .loc 1], .lst [.loc 2]] = .nx [some (.lst (tsW ts)), some (.loc 3), w2, w3, w4, w5, w6] M' := e1
  rw [TT__law_built]
  simp only [B__law_built, bind_ok', bind_bad', bind_exc', to_ok, to_bad, to_exc, seq_nx, seq_rt, seq_bk, seq_ct, seq_bad, seq_exc, fin_nx, fin_rt, fin_exc, run_eq, sSeq_eq, sNext_eq, sIf_eq, sSet_eq, sAug_eq, sRet_eq, sRetN_eq, sExpr_eq, sFor_eq, loop_nil, gN_eq, var_0, var_s, dC_eq, dBin_eq, dNot_eq, dAnd_eq, dOr_eq, dAndV_eq, dOrV_eq, dNotV_eq, dIf_eq, asBool_bl, toB_eq, dNil_eq, dCons_eq, dCall_eq, dTup_eq, dLst_eq, dImm_eq, dMut_eq, dStill_eq, dRange1_eq, dRange2_eq, add_ii, iadd_ii, sub_ii, and_ii, dNeg_eq, neg_i, cmp_ii, cmp_ss, eq_ii, eq_ss, eq_bb, len_t, len_l, len_f, max2_ii, min2_ii, int_b, dIsT_eq, isT_b, isT_i, isT_s, isT_n, isT_t, isT_l, dSl_eq, oNone_eq, oSome_eq, optI_i, sl_t, sl_l, sl_f, dM1_eq, dM1L_eq, m1k_s, f2_ss, dComp_eq, nox_ok, dYes_eq, dMl_eq, mlk_0, mlk2_0, mlk_1, mlk2_1, pop_ok, clear_ok, isT_loc0, isT_f, len_loc0, seqW_l, seqW_t, seqW_f, seqW_sg, is_nn, is_tn, when_true, nc0, nc1, nc2, nc3, nc4, nc5, nc6, nc7, nc8, ofStr_beq, dPick_eq, ofStr_eq, ixt0, ixt1, ixt2, ixt3, ixl0, ixl1, ixl2, ixl3, dEnumT_eq, enumK_t, pair_tt, dFld_eq, sFld_eq, sFldA_eq, dMeth_eq, List.map_cons, List.map_nil, List.length_cons, List.length_nil, List.replicate_succ, List.replicate_zero, List.cons_append, List.nil_append, List.set_cons_zero, List.set_cons_succ, Nat.reduceSub, Nat.reduceAdd, Nat.zero_add, if_true, Bool.false_eq_true, if_false, decide_true, decide_false, Bool.not_true, Bool.not_false, id, reduceIte, start_eq, List.length_map, Nat.reduceLeDiff, Int.reduceBEq, Bool.or_true, Bool.true_or, Bool.or_false, Bool.false_or, Bool.and_true, Bool.true_and, Bool.and_false, Bool.false_and, line_eq, reduceCtorEq, String.reduceEq, s0, s1, s3, e1', i1, i2, ft]

end K07

namespace K07
open PySem PySem.Spec L2 LP
/-! ### the tokens of a law's row -/
theorem depR_leaves : ∀ ts : List Tk, ts.all isLeaf = true → depR (ts.map leafP) = 0
  | [], _ => rfl
  | t :: ts, h => by
    rw [List.all_cons, Bool.and_eq_true] at h
    have ih := depR_leaves ts h.2
    have : depP (leafP t) = 0 := by cases t <;> first | rfl | cases h.1
    show max (depP (leafP t)) (depR (ts.map leafP)) = 0
    omega
theorem wrap_deep {hd : Tk} {sh : List Tk} {wr : List Pc → Pc} (hw : ∀ ts r, Closed ts r → Closed (hd :: ts ++ sh) [wr r]) (hdp : ∀ r, depR [wr r] = 1 + depR r) : ∀ (d : Nat) {ts : List Tk} {r : List Pc}, Closed ts r → ∃ r', Closed (List.replicate d hd ++ ts ++ (List.replicate d sh).flatten) r' ∧ depR r' = d + depR r
  | 0, ts, r, h => ⟨r, by simpa using h, by omega⟩
  | d + 1, ts, r, h => by
    obtain ⟨r', q, e0⟩ := wrap_deep hw hdp d (hw ts r h)
    refine ⟨r', ?_, by rw [e0, hdp]; omega⟩
    have e : List.replicate (d + 1) hd ++ ts ++ (List.replicate (d + 1) sh).flatten = List.replicate d hd ++ (hd :: ts ++ sh) ++ (List.replicate d sh).flatten := by
      have e1 : List.replicate (d + 1) hd = List.replicate d hd ++ [hd] := List.replicate_succ'
      have e2 : (List.replicate (d + 1) sh).flatten = sh ++ (List.replicate d sh).flatten := by rw [List.replicate_succ, List.flatten_cons]
      rw [e1, e2]
      simp
    rw [e]
    exact q
structure Good (ts : List Tk) (row : List Pc) : Prop where
  run : LP.run s00 ts = some ⟨[], row⟩
  ok : ts.all okT = true
  len : ts.length ≤ 10000
  dep : depR row ≤ 12
theorem Good.okR {ts : List Tk} {row : List Pc} (g : Good ts row) : LP.okR row = true := by
  have := run_ok (s := s00) rfl g.ok g.run
  simpa [okS] using this
theorem good_tokens {ts : List Tk} {row : List Pc} {c : Int} (h1 : LP.run s00 ts = some ⟨[], row⟩) (h2 : ts.all okT = true) (h3 : hiT ts ≤ c) : (depR row : Int) ≤ c := by
  have ok : LP.okR row = true := by
    have := run_ok (s := s00) rfl h2 h1
    simpa [okS] using this
  rw [← hi_row h1 ok]
  exact h3
theorem leaves_comp (ns : List Int) (hl : ns.length ≤ 63) (n : Nat) (K : Nat) (hK : K ≤ 1000) (p1 p2 : Option W) (p4 p5 p6 p7 : Option W) : ∃ ts : List Tk, ts.length = K ∧ ts.all isLeaf = true ∧ ts.all okT = true ∧
    compD 3 dYes (dCall (callP 1 (TT (n + 2) .f__law_leaf)) (dCons (dCall (callP 3 (TT (n + 2) .f__law_mixed)) (dCons (dVar 0) (dCons (dVar 3) (dCons (dC (.int 41)) (dNil))))) (dNil))) [some (scr ns), p1, p2, none, p4, p5, p6, p7] (rangeW 0 K) [] = .ok (tsW ts) [] := by
  have hs := isScr_fro ns
  have ex : ∀ i : Nat, ∃ t : Tk, i ≤ 1000 → isLeaf t = true ∧ okT t = true ∧ ∃ m : Int, (∀ M, callP 3 (TT (n + 2) .f__law_mixed) [scr ns, .int (0 + (i : Int)), .int 41] M = .ok (.int m) M) ∧ ∀ M, callP 1 (TT (n + 2) .f__law_leaf) [.int m] M = .ok (tW t) M := fun i => by
    by_cases hi : i ≤ 1000
    · obtain ⟨m, hm, m0, _⟩ := mixedC ns _ hs (0 + (i : Int)) 41 n (by omega) (by omega) (by omega) (by decide) (by decide)
      obtain ⟨t, a, b, c⟩ := leafC m n m0
      exact ⟨t, fun _ => ⟨a, b, m, hm, c⟩⟩
    · exact ⟨.fin, fun h => absurd h hi⟩
  obtain ⟨tok, ht⟩ := Classical.axiomOfChoice ex
  refine ⟨(List.range K).map tok, by simp, ?_, ?_, ?_⟩
  · rw [List.all_eq_true]
    intro t h
    obtain ⟨i, hi, rfl⟩ := List.mem_map.mp h
    exact (ht i (by have := List.mem_range.mp hi; omega)).1
  · rw [List.all_eq_true]
    intro t h
    obtain ⟨i, hi, rfl⟩ := List.mem_map.mp h
    exact (ht i (by have := List.mem_range.mp hi; omega)).2.1
  · have := comp_map (ρ := [some (scr ns), p1, p2, none, p4, p5, p6, p7]) (n := 3) (M := []) (t := dYes) (el := dCall (callP 1 (TT (n + 2) .f__law_leaf)) (dCons (dCall (callP 3 (TT (n + 2) .f__law_mixed)) (dCons (dVar 0) (dCons (dVar 3) (dCons (dC (.int 41)) (dNil))))) (dNil))) (p := fun _ => true) (f := fun x => match x with | .int i => tW (tok i.toNat) | x => x) (ws := rangeW 0 K) (fun x _ => rfl) (fun x hx _ => by
      obtain ⟨i, hi, rfl⟩ := List.mem_map.mp hx
      have hi := List.mem_range.mp hi
      obtain ⟨_, _, m, hm, hlf⟩ := ht i (by omega)
      have e : ((0 : Int) + (i : Nat)).toNat = i := by omega
      show _ = Res.ok (tW (tok ((0 : Int) + (i : Nat)).toNat)) []
      rw [e]
      simp only [bind_ok', bind_bad', bind_exc', to_ok, to_bad, to_exc, seq_nx, seq_rt, seq_bk, seq_ct, seq_bad, seq_exc, fin_nx, fin_rt, fin_exc, run_eq, sSeq_eq, sNext_eq, sIf_eq, sSet_eq, sAug_eq, sRet_eq, sRetN_eq, sExpr_eq, sFor_eq, loop_nil, gN_eq, var_0, var_s, dC_eq, dBin_eq, dNot_eq, dAnd_eq, dOr_eq, dAndV_eq, dOrV_eq, dNotV_eq, dIf_eq, asBool_bl, toB_eq, dNil_eq, dCons_eq, dCall_eq, dTup_eq, dLst_eq, dImm_eq, dMut_eq, dStill_eq, dRange1_eq, dRange2_eq, add_ii, iadd_ii, sub_ii, and_ii, dNeg_eq, neg_i, cmp_ii, cmp_ss, eq_ii, eq_ss, eq_bb, len_t, len_l, len_f, max2_ii, min2_ii, int_b, dIsT_eq, isT_b, isT_i, isT_s, isT_n, isT_t, isT_l, dSl_eq, oNone_eq, oSome_eq, optI_i, sl_t, sl_l, sl_f, dM1_eq, dM1L_eq, m1k_s, f2_ss, dComp_eq, nox_ok, dYes_eq, dMl_eq, mlk_0, mlk2_0, mlk_1, mlk2_1, pop_ok, clear_ok, isT_loc0, isT_f, len_loc0, seqW_l, seqW_t, seqW_f, seqW_sg, is_nn, is_tn, when_true, nc0, nc1, nc2, nc3, nc4, nc5, nc6, nc7, nc8, ofStr_beq, dPick_eq, ofStr_eq, ixt0, ixt1, ixt2, ixt3, ixl0, ixl1, ixl2, ixl3, dEnumT_eq, enumK_t, pair_tt, dFld_eq, sFld_eq, sFldA_eq, dMeth_eq, List.map_cons, List.map_nil, List.length_cons, List.length_nil, List.replicate_succ, List.replicate_zero, List.cons_append, List.nil_append, List.set_cons_zero, List.set_cons_succ, Nat.reduceSub, Nat.reduceAdd, Nat.zero_add, if_true, Bool.false_eq_true, if_false, decide_true, decide_false, Bool.not_true, Bool.not_false, id, reduceIte, start_eq, List.length_map, Nat.reduceLeDiff, Int.reduceBEq, Bool.or_true, Bool.true_or, Bool.or_false, Bool.false_or, Bool.and_true, Bool.true_and, Bool.and_false, Bool.false_and, line_eq, reduceCtorEq, String.reduceEq, hm, hlf])
    rw [this, List.filter_eq_self.mpr (fun _ _ => rfl)]
    unfold rangeW
    rw [List.map_map, tsW, List.map_map]
    congr 1
    refine List.map_congr_left fun i _ => ?_
    show tW (tok ((0 : Int) + (i : Nat)).toNat) = tW (tok i)
    rw [show ((0 : Int) + (i : Nat)).toNat = i by omega]
def repK (x y : W) (M2 : Mem) : Res (List W) := match asL M2 x, y with
  | some xs, .int k => .when ((-9223372036854775808 ≤ k ∧ k < 9223372036854775808) ∧ xs.length * k.toNat ≤ sizeLine) (.ok (List.replicate k.toNat xs).flatten M2)
  | _, _ => .bad
theorem dRep_eq {da db : DEn} {ρ : Rho} {M : Mem} : dRep da db ρ M = (da ρ M).bind fun x M1 => (db ρ M1).bind (repK x) := rfl
theorem rep_l {xs : List W} {k : Int} {M : Mem} (h : xs.length ≤ 10) (h0 : 0 ≤ k) (h1 : k ≤ 100) : repK (.lst xs) (.int k) M = .ok (List.replicate k.toNat xs).flatten M := when_t ⟨⟨by omega, by omega⟩, by
  rw [sizeLine_eq]
  have : xs.length * k.toNat ≤ 10 * 100 := Nat.mul_le_mul h (by omega)
  omega⟩
theorem tsW_wrap (d : Nat) (hd : Tk) (sh ts : List Tk) : tsW (List.replicate d hd ++ ts ++ (List.replicate d sh).flatten) = (List.replicate d [tW hd]).flatten ++ tsW ts ++ (List.replicate d (tsW sh)).flatten := by
  simp only [tsW, List.map_append, List.map_replicate, List.map_flatten, List.flatten_replicate_singleton]
theorem wrap_good {hd : Tk} {sh ts : List Tk} {row : List Pc} {wr : List Pc → Pc} (hw : ∀ ts r, Closed ts r → Closed (hd :: ts ++ sh) [wr r]) (hdp : ∀ r, depR [wr r] = 1 + depR r) (d : Nat) (hd12 : d ≤ 12) (h1 : LP.run s00 ts = some ⟨[], row⟩) (h2 : ts.all okT = true) (h3 : ts.length ≤ 1000) (h4 : (depR row : Int) ≤ 0) (ho : okT hd = true) (hs : sh.all okT = true) (hl : sh.length ≤ 10) :
    ∃ r', Good (List.replicate d hd ++ ts ++ (List.replicate d sh).flatten) r' := by
  obtain ⟨r', q1, q2⟩ := wrap_deep hw hdp d (closed_of h1)
  refine ⟨r', q1.run, ?_, ?_, by omega⟩
  · rw [List.all_append, List.all_append, h2, Bool.and_true, Bool.and_eq_true]
    refine ⟨List.all_eq_true.mpr fun x hx => by rw [List.eq_of_mem_replicate hx]; exact ho, List.all_eq_true.mpr fun x hx => ?_⟩
    obtain ⟨l, hl1, hl2⟩ := List.mem_flatten.mp hx
    rw [List.eq_of_mem_replicate hl1] at hl2
    exact List.all_eq_true.mp hs x hl2
  · have : d * sh.length ≤ 12 * 10 := Nat.mul_le_mul hd12 hl
    simp only [List.length_append, List.length_replicate, List.length_flatten, List.map_replicate, List.sum_replicate_nat]
    omega
theorem some_ok (ns : List Int) (hl : ns.length ≤ 63) (n : Nat) : ∃ ts row, Good ts row ∧ ∀ M, callP 1 (TT (n + 4) .f__law_some) [scr ns] M = .ok (.lst (tsW ts)) M := by
  have hs := isScr_fro ns
  obtain ⟨m, hm, m0, _⟩ := mixedC ns _ hs 0 40 (n + 1) (by omega) (by omega) (by omega) (by decide) (by decide)
  have hb0 : 0 ≤ (if (40 : Int) < ns.length + 2 then 40 else (ns.length : Int) + 2) := by split <;> omega
  have hb1 : (if (40 : Int) < ns.length + 2 then 40 else (ns.length : Int) + 2) ≤ 40 := by split <;> omega
  have o8 : (0 : Int) < 8 := by decide
  have p8 : (8 : Int) < 1073741824 := by decide
  have o5 : (0 : Int) < 5 := by decide
  have o4 : (0 : Int) < 4 := by decide
  have o3 : (0 : Int) < 3 := by decide
  have o32 : (0 : Int) < 32 := by decide
  have p32 : (32 : Int) < 1073741824 := by decide
  suffices h : ∃ ts row, Good ts row ∧ TT (n + 4) .f__law_some [scr ns] [] = .ok (.lst (tsW ts)) [] by
    obtain ⟨ts, row, g, e⟩ := h
    exact ⟨ts, row, g, fun M => callP_ok rfl (by simp [lfs, lf, lfs_ints]) e (tsW_lf _)⟩
  rw [TT__law_some]
  by_cases h1 : m % 8 = 1
  · have e1 : (m % 8 == 1) = true := by rw [h1]; rfl
    obtain ⟨ts, g1, g2, g3, g4⟩ := leaves_comp ns hl (n + 1) (196 + m / 8 % 5).toNat (by omega) (some (.int m)) (some (.int (if (40 : Int) < ns.length + 2 then 40 else (ns.length : Int) + 2))) none none none none
    refine ⟨ts, ts.map leafP, ⟨(closed_leaves g2).run, g3, by omega, by rw [depR_leaves ts g2]; omega⟩, ?_⟩
    have hlen : ts.length ≤ 16777216 := by omega
    simp only [B__law_some, bind_ok', bind_bad', bind_exc', to_ok, to_bad, to_exc, seq_nx, seq_rt, seq_bk, seq_ct, seq_bad, seq_exc, fin_nx, fin_rt, fin_exc, run_eq, sSeq_eq, sNext_eq, sIf_eq, sSet_eq, sAug_eq, sRet_eq, sRetN_eq, sExpr_eq, sFor_eq, loop_nil, gN_eq, var_0, var_s, dC_eq, dBin_eq, dNot_eq, dAnd_eq, dOr_eq, dAndV_eq, dOrV_eq, dNotV_eq, dIf_eq, asBool_bl, toB_eq, dNil_eq, dCons_eq, dCall_eq, dTup_eq, dLst_eq, dImm_eq, dMut_eq, dStill_eq, dRange1_eq, dRange2_eq, add_ii, iadd_ii, sub_ii, and_ii, dNeg_eq, neg_i, cmp_ii, cmp_ss, eq_ii, eq_ss, eq_bb, len_t, len_l, len_f, max2_ii, min2_ii, int_b, dIsT_eq, isT_b, isT_i, isT_s, isT_n, isT_t, isT_l, dSl_eq, oNone_eq, oSome_eq, optI_i, sl_t, sl_l, sl_f, dM1_eq, dM1L_eq, m1k_s, f2_ss, dComp_eq, nox_ok, dYes_eq, dMl_eq, mlk_0, mlk2_0, mlk_1, mlk2_1, pop_ok, clear_ok, isT_loc0, isT_f, len_loc0, seqW_l, seqW_t, seqW_f, seqW_sg, is_nn, is_tn, when_true, nc0, nc1, nc2, nc3, nc4, nc5, nc6, nc7, nc8, ofStr_beq, dPick_eq, ofStr_eq, ixt0, ixt1, ixt2, ixt3, ixl0, ixl1, ixl2, ixl3, dEnumT_eq, enumK_t, pair_tt, dFld_eq, sFld_eq, sFldA_eq, dMeth_eq, List.map_cons, List.map_nil, List.length_cons, List.length_nil, List.replicate_succ, List.replicate_zero, List.cons_append, List.nil_append, List.set_cons_zero, List.set_cons_succ, Nat.reduceSub, Nat.reduceAdd, Nat.zero_add, if_true, Bool.false_eq_true, if_false, decide_true, decide_false, Bool.not_true, Bool.not_false, id, reduceIte, start_eq, List.length_map, Nat.reduceLeDiff, Int.reduceBEq, Bool.or_true, Bool.true_or, Bool.or_false, Bool.false_or, Bool.and_true, Bool.true_and, Bool.and_false, Bool.false_and, line_eq, reduceCtorEq, String.reduceEq, hm, mod_ok o8, mod_ok o5, div_ok o8 p8, e1, rng1_ok (show (-4611686018427387904 : Int) ≤ 196 + m / 8 % 5 by omega) (show 196 + m / 8 % 5 < 4611686018427387904 by omega), g4, hlen]
  · have e1 : (m % 8 == 1) = false := beq_eq_false_iff_ne.mpr h1
    by_cases h3 : m % 8 = 3
    · have e3 : (m % 8 == 3) = true := by rw [h3]; rfl
      obtain ⟨t0, r0, a1, a2, a3, a4, a5⟩ := tokens_ok ns _ hs (by omega) n 0 (if (40 : Int) < ns.length + 2 then 40 else (ns.length : Int) + 2) 0 (by decide) (by decide) hb0 (by omega) (by decide)
      have hd0 := good_tokens a2 a3 a5
      have d0 : 0 ≤ 9 + m / 8 % 4 := by omega
      have d1 : 9 + m / 8 % 4 ≤ 100 := by omega
      have s1 : (1 : Nat) ≤ 16777216 := by decide
      have s2 : (2 : Nat) ≤ 16777216 := by decide
      have s3 : (3 : Nat) ≤ 16777216 := by decide
      have j1 : ∀ x : W, ([x] : List W).length ≤ 10 := fun _ => Nat.le_of_ble_eq_true rfl
      have j3 : ∀ x y z : W, ([x, y, z] : List W).length ≤ 10 := fun _ _ _ => Nat.le_of_ble_eq_true rfl
      have k1 : ∀ x y z : W, pickK [Str.ofString "open", Str.ofString "hang", Str.ofString "either"] [x, y, z] (Str.ofString "open") = some x := fun x y z => by simp [pickK]
      have k2 : ∀ x y z : W, pickK [Str.ofString "open", Str.ofString "hang", Str.ofString "either"] [x, y, z] (Str.ofString "hang") = some y := fun x y z => by simp [pickK]
      have k3 : ∀ x y z : W, pickK [Str.ofString "open", Str.ofString "hang", Str.ofString "either"] [x, y, z] (Str.ofString "either") = some z := fun x y z => by simp [pickK]
      have kl : ∀ (x y z : W) (r : Mem → Res W) (M : Mem), pick1 [Str.ofString "open", Str.ofString "hang", Str.ofString "either"] r [x, y, z] M = (r M).bind (pick2 [Str.ofString "open", Str.ofString "hang", Str.ofString "either"] [x, y, z]) := fun _ _ _ _ _ => pick1_ok rfl
      have l3 : ∀ (x y z : W), atI [x, y, z] 0 = some x ∧ atI [x, y, z] 1 = some y ∧ atI [x, y, z] 2 = some z := fun _ _ _ => ⟨rfl, rfl, rfl⟩
      have l2 : ∀ (x y : W), atI [x, y] 0 = some x ∧ atI [x, y] 1 = some y := fun _ _ => ⟨rfl, rfl⟩
      have add3 : ∀ (xs ys zs : List W) (M : Mem), xs.length ≤ 100 → ys.length ≤ 1000 → zs.length ≤ 1000 → ((vAdd (.lst xs) (.lst ys) M).bind fun x M1 => vAdd x (.lst zs) M1) = .ok (.lst (xs ++ ys ++ zs)) M := fun xs ys zs M b1 b2 b3 => by
        rw [add_ll (by omega), bind_ok', add_ll (by rw [List.length_append]; omega)]
      have w3 : m / 32 % 3 = 0 ∨ m / 32 % 3 = 1 ∨ m / 32 % 3 = 2 := by omega
      have lt0 : (tsW t0).length ≤ 1000 := by rw [List.length_map]; omega
      have rl : ∀ (x : W), ((List.replicate (9 + m / 8 % 4).toNat [x]).flatten).length ≤ 100 := fun x => by
        rw [List.flatten_replicate_singleton, List.length_replicate]; omega
      have rl3 : ∀ (x y z : W), ((List.replicate (9 + m / 8 % 4).toNat [x, y, z]).flatten).length ≤ 1000 := fun x y z => by
        simp only [List.length_flatten, List.map_replicate, List.sum_replicate_nat, List.length_cons, List.length_nil]; omega
      have v1 : ∀ (x : W) (M : Mem), vAdd (.lst ((List.replicate (9 + m / 8 % 4).toNat [x]).flatten)) (.lst (tsW t0)) M = .ok (.lst ((List.replicate (9 + m / 8 % 4).toNat [x]).flatten ++ tsW t0)) M := fun x M => add_ll (by have := rl x; omega)
      have v2 : ∀ (x y : W) (M : Mem), vAdd (.lst ((List.replicate (9 + m / 8 % 4).toNat [x]).flatten ++ tsW t0)) (.lst ((List.replicate (9 + m / 8 % 4).toNat [y]).flatten)) M = .ok (.lst ((List.replicate (9 + m / 8 % 4).toNat [x]).flatten ++ tsW t0 ++ (List.replicate (9 + m / 8 % 4).toNat [y]).flatten)) M := fun x y M => add_ll (by rw [List.length_append]; have := rl x; have := rl y; omega)
      have v3 : ∀ (x y z u : W) (M : Mem), vAdd (.lst ((List.replicate (9 + m / 8 % 4).toNat [x]).flatten ++ tsW t0)) (.lst ((List.replicate (9 + m / 8 % 4).toNat [y, z, u]).flatten)) M = .ok (.lst ((List.replicate (9 + m / 8 % 4).toNat [x]).flatten ++ tsW t0 ++ (List.replicate (9 + m / 8 % 4).toNat [y, z, u]).flatten)) M := fun x y z u M => add_ll (by rw [List.length_append]; have := rl x; have := rl3 y z u; omega)
      have ht0 : t0.length ≤ 1000 := by omega
      have dd : (9 + m / 8 % 4).toNat ≤ 12 := by omega
      rcases w3 with e | e | e
      · obtain ⟨r', g⟩ := wrap_good (hd := .opn) (sh := [.cls]) (wr := .grp) (fun ts r h => closed_grp h) (fun r => by simp [depR, depP]) (9 + m / 8 % 4).toNat dd a2 a3 ht0 hd0 rfl rfl (by decide)
        refine ⟨_, r', g, ?_⟩
        rw [tsW_wrap]
        simp only [B__law_some, bind_ok', bind_bad', bind_exc', to_ok, to_bad, to_exc, seq_nx, seq_rt, seq_bk, seq_ct, seq_bad, seq_exc, fin_nx, fin_rt, fin_exc, run_eq, sSeq_eq, sNext_eq, sIf_eq, sSet_eq, sAug_eq, sRet_eq, sRetN_eq, sExpr_eq, sFor_eq, loop_nil, gN_eq, var_0, var_s, dC_eq, dBin_eq, dNot_eq, dAnd_eq, dOr_eq, dAndV_eq, dOrV_eq, dNotV_eq, dIf_eq, asBool_bl, toB_eq, dNil_eq, dCons_eq, dCall_eq, dTup_eq, dLst_eq, dImm_eq, dMut_eq, dStill_eq, dRange1_eq, dRange2_eq, add_ii, iadd_ii, sub_ii, and_ii, dNeg_eq, neg_i, cmp_ii, cmp_ss, eq_ii, eq_ss, eq_bb, len_t, len_l, len_f, max2_ii, min2_ii, int_b, dIsT_eq, isT_b, isT_i, isT_s, isT_n, isT_t, isT_l, dSl_eq, oNone_eq, oSome_eq, optI_i, sl_t, sl_l, sl_f, dM1_eq, dM1L_eq, m1k_s, f2_ss, dComp_eq, nox_ok, dYes_eq, dMl_eq, mlk_0, mlk2_0, mlk_1, mlk2_1, pop_ok, clear_ok, isT_loc0, isT_f, len_loc0, seqW_l, seqW_t, seqW_f, seqW_sg, is_nn, is_tn, when_true, nc0, nc1, nc2, nc3, nc4, nc5, nc6, nc7, nc8, ofStr_beq, dPick_eq, ofStr_eq, ixt0, ixt1, ixt2, ixt3, ixl0, ixl1, ixl2, ixl3, dEnumT_eq, enumK_t, pair_tt, dFld_eq, sFld_eq, sFldA_eq, dMeth_eq, List.map_cons, List.map_nil, List.length_cons, List.length_nil, List.replicate_succ, List.replicate_zero, List.cons_append, List.nil_append, List.set_cons_zero, List.set_cons_succ, Nat.reduceSub, Nat.reduceAdd, Nat.zero_add, if_true, Bool.false_eq_true, if_false, decide_true, decide_false, Bool.not_true, Bool.not_false, id, reduceIte, start_eq, List.length_map, Nat.reduceLeDiff, Int.reduceBEq, Bool.or_true, Bool.true_or, Bool.or_false, Bool.false_or, Bool.and_true, Bool.true_and, Bool.and_false, Bool.false_and, line_eq, reduceCtorEq, String.reduceEq, dRep_eq, hm, mod_ok o8, mod_ok o4, mod_ok o3, div_ok o8 p8, div_ok o32 p32, e1, e3, e, ix_l (l3 _ _ _).1, ix_l (l2 _ _).1, s1, s2, s3, kl, pick2_ok (k1 _ _ _), rep_l (j1 _) d0 d1, a1, v1, v2, tW]
      · obtain ⟨r', g⟩ := wrap_good (hd := .hng 3) (sh := [.bck]) (wr := .hng 3) (fun ts r h => closed_hng h) (fun r => by simp [depR, depP]) (9 + m / 8 % 4).toNat dd a2 a3 ht0 hd0 rfl rfl (by decide)
        refine ⟨_, r', g, ?_⟩
        rw [tsW_wrap]
        simp only [B__law_some, bind_ok', bind_bad', bind_exc', to_ok, to_bad, to_exc, seq_nx, seq_rt, seq_bk, seq_ct, seq_bad, seq_exc, fin_nx, fin_rt, fin_exc, run_eq, sSeq_eq, sNext_eq, sIf_eq, sSet_eq, sAug_eq, sRet_eq, sRetN_eq, sExpr_eq, sFor_eq, loop_nil, gN_eq, var_0, var_s, dC_eq, dBin_eq, dNot_eq, dAnd_eq, dOr_eq, dAndV_eq, dOrV_eq, dNotV_eq, dIf_eq, asBool_bl, toB_eq, dNil_eq, dCons_eq, dCall_eq, dTup_eq, dLst_eq, dImm_eq, dMut_eq, dStill_eq, dRange1_eq, dRange2_eq, add_ii, iadd_ii, sub_ii, and_ii, dNeg_eq, neg_i, cmp_ii, cmp_ss, eq_ii, eq_ss, eq_bb, len_t, len_l, len_f, max2_ii, min2_ii, int_b, dIsT_eq, isT_b, isT_i, isT_s, isT_n, isT_t, isT_l, dSl_eq, oNone_eq, oSome_eq, optI_i, sl_t, sl_l, sl_f, dM1_eq, dM1L_eq, m1k_s, f2_ss, dComp_eq, nox_ok, dYes_eq, dMl_eq, mlk_0, mlk2_0, mlk_1, mlk2_1, pop_ok, clear_ok, isT_loc0, isT_f, len_loc0, seqW_l, seqW_t, seqW_f, seqW_sg, is_nn, is_tn, when_true, nc0, nc1, nc2, nc3, nc4, nc5, nc6, nc7, nc8, ofStr_beq, dPick_eq, ofStr_eq, ixt0, ixt1, ixt2, ixt3, ixl0, ixl1, ixl2, ixl3, dEnumT_eq, enumK_t, pair_tt, dFld_eq, sFld_eq, sFldA_eq, dMeth_eq, List.map_cons, List.map_nil, List.length_cons, List.length_nil, List.replicate_succ, List.replicate_zero, List.cons_append, List.nil_append, List.set_cons_zero, List.set_cons_succ, Nat.reduceSub, Nat.reduceAdd, Nat.zero_add, if_true, Bool.false_eq_true, if_false, decide_true, decide_false, Bool.not_true, Bool.not_false, id, reduceIte, start_eq, List.length_map, Nat.reduceLeDiff, Int.reduceBEq, Bool.or_true, Bool.true_or, Bool.or_false, Bool.false_or, Bool.and_true, Bool.true_and, Bool.and_false, Bool.false_and, line_eq, reduceCtorEq, String.reduceEq, dRep_eq, hm, mod_ok o8, mod_ok o4, mod_ok o3, div_ok o8 p8, div_ok o32 p32, e1, e3, e, ix_l (l3 _ _ _).2.1, ix_l (l2 _ _).2, s1, s2, s3, kl, pick2_ok (k2 _ _ _), rep_l (j1 _) d0 d1, a1, v1, v2, tW]
      · obtain ⟨r', g⟩ := wrap_good (hd := .eit) (sh := [.or, .fin, .dne]) (wr := fun r => .eit [r, [.fin]]) (fun ts r h => closed_eit h) (fun r => by simp [depR, depP, depE]) (9 + m / 8 % 4).toNat dd a2 a3 ht0 hd0 rfl rfl (by decide)
        refine ⟨_, r', g, ?_⟩
        rw [tsW_wrap]
        simp only [B__law_some, bind_ok', bind_bad', bind_exc', to_ok, to_bad, to_exc, seq_nx, seq_rt, seq_bk, seq_ct, seq_bad, seq_exc, fin_nx, fin_rt, fin_exc, run_eq, sSeq_eq, sNext_eq, sIf_eq, sSet_eq, sAug_eq, sRet_eq, sRetN_eq, sExpr_eq, sFor_eq, loop_nil, gN_eq, var_0, var_s, dC_eq, dBin_eq, dNot_eq, dAnd_eq, dOr_eq, dAndV_eq, dOrV_eq, dNotV_eq, dIf_eq, asBool_bl, toB_eq, dNil_eq, dCons_eq, dCall_eq, dTup_eq, dLst_eq, dImm_eq, dMut_eq, dStill_eq, dRange1_eq, dRange2_eq, add_ii, iadd_ii, sub_ii, and_ii, dNeg_eq, neg_i, cmp_ii, cmp_ss, eq_ii, eq_ss, eq_bb, len_t, len_l, len_f, max2_ii, min2_ii, int_b, dIsT_eq, isT_b, isT_i, isT_s, isT_n, isT_t, isT_l, dSl_eq, oNone_eq, oSome_eq, optI_i, sl_t, sl_l, sl_f, dM1_eq, dM1L_eq, m1k_s, f2_ss, dComp_eq, nox_ok, dYes_eq, dMl_eq, mlk_0, mlk2_0, mlk_1, mlk2_1, pop_ok, clear_ok, isT_loc0, isT_f, len_loc0, seqW_l, seqW_t, seqW_f, seqW_sg, is_nn, is_tn, when_true, nc0, nc1, nc2, nc3, nc4, nc5, nc6, nc7, nc8, ofStr_beq, dPick_eq, ofStr_eq, ixt0, ixt1, ixt2, ixt3, ixl0, ixl1, ixl2, ixl3, dEnumT_eq, enumK_t, pair_tt, dFld_eq, sFld_eq, sFldA_eq, dMeth_eq, List.map_cons, List.map_nil, List.length_cons, List.length_nil, List.replicate_succ, List.replicate_zero, List.cons_append, List.nil_append, List.set_cons_zero, List.set_cons_succ, Nat.reduceSub, Nat.reduceAdd, Nat.zero_add, if_true, Bool.false_eq_true, if_false, decide_true, decide_false, Bool.not_true, Bool.not_false, id, reduceIte, start_eq, List.length_map, Nat.reduceLeDiff, Int.reduceBEq, Bool.or_true, Bool.true_or, Bool.or_false, Bool.false_or, Bool.and_true, Bool.true_and, Bool.and_false, Bool.false_and, line_eq, reduceCtorEq, String.reduceEq, dRep_eq, hm, mod_ok o8, mod_ok o4, mod_ok o3, div_ok o8 p8, div_ok o32 p32, e1, e3, e, ix_l (l3 _ _ _).2.2, ix_l (l2 _ _).1, s1, s2, s3, kl, pick2_ok (k3 _ _ _), rep_l (j1 _) d0 d1, rep_l (j3 _ _ _) d0 d1, a1, v1, v3, tW]
    · have e3 : (m % 8 == 3) = false := beq_eq_false_iff_ne.mpr h3
      obtain ⟨ts, row, g1, g2, g3, g4, g5⟩ := tokens_ok ns _ hs (by omega) n 0 (if (40 : Int) < ns.length + 2 then 40 else (ns.length : Int) + 2) 4 (by decide) (by decide) hb0 (by omega) (by decide)
      have hd := good_tokens g2 g3 g5
      refine ⟨ts, row, ⟨g2, g3, by omega, by omega⟩, ?_⟩
      simp only [B__law_some, bind_ok', bind_bad', bind_exc', to_ok, to_bad, to_exc, seq_nx, seq_rt, seq_bk, seq_ct, seq_bad, seq_exc, fin_nx, fin_rt, fin_exc, run_eq, sSeq_eq, sNext_eq, sIf_eq, sSet_eq, sAug_eq, sRet_eq, sRetN_eq, sExpr_eq, sFor_eq, loop_nil, gN_eq, var_0, var_s, dC_eq, dBin_eq, dNot_eq, dAnd_eq, dOr_eq, dAndV_eq, dOrV_eq, dNotV_eq, dIf_eq, asBool_bl, toB_eq, dNil_eq, dCons_eq, dCall_eq, dTup_eq, dLst_eq, dImm_eq, dMut_eq, dStill_eq, dRange1_eq, dRange2_eq, add_ii, iadd_ii, sub_ii, and_ii, dNeg_eq, neg_i, cmp_ii, cmp_ss, eq_ii, eq_ss, eq_bb, len_t, len_l, len_f, max2_ii, min2_ii, int_b, dIsT_eq, isT_b, isT_i, isT_s, isT_n, isT_t, isT_l, dSl_eq, oNone_eq, oSome_eq, optI_i, sl_t, sl_l, sl_f, dM1_eq, dM1L_eq, m1k_s, f2_ss, dComp_eq, nox_ok, dYes_eq, dMl_eq, mlk_0, mlk2_0, mlk_1, mlk2_1, pop_ok, clear_ok, isT_loc0, isT_f, len_loc0, seqW_l, seqW_t, seqW_f, seqW_sg, is_nn, is_tn, when_true, nc0, nc1, nc2, nc3, nc4, nc5, nc6, nc7, nc8, ofStr_beq, dPick_eq, ofStr_eq, ixt0, ixt1, ixt2, ixt3, ixl0, ixl1, ixl2, ixl3, dEnumT_eq, enumK_t, pair_tt, dFld_eq, sFld_eq, sFldA_eq, dMeth_eq, List.map_cons, List.map_nil, List.length_cons, List.length_nil, List.replicate_succ, List.replicate_zero, List.cons_append, List.nil_append, List.set_cons_zero, List.set_cons_succ, Nat.reduceSub, Nat.reduceAdd, Nat.zero_add, if_true, Bool.false_eq_true, if_false, decide_true, decide_false, Bool.not_true, Bool.not_false, id, reduceIte, start_eq, List.length_map, Nat.reduceLeDiff, Int.reduceBEq, Bool.or_true, Bool.true_or, Bool.or_false, Bool.false_or, Bool.and_true, Bool.true_and, Bool.and_false, Bool.false_and, line_eq, reduceCtorEq, String.reduceEq, hm, mod_ok o8, mod_ok o5, div_ok o8 p8, e1, e3, g1]

theorem tsW_pl : ∀ ts : List Tk, plWs (tsW ts) = true ∧ wdeps (tsW ts) ≤ 1 ∧ shWs (tsW ts) = true
  | [] => ⟨rfl, Nat.zero_le _, rfl⟩
  | t :: ts => by
    obtain ⟨a, b, c⟩ := tsW_pl ts
    have h1 : plW (tW t) = true := by cases t <;> rfl
    have h2 : wdep (tW t) ≤ 1 := by cases t <;> simp [tW, wdep, wdeps]
    have h3 : shW (tW t) = true := by cases t <;> simp [tW, shW, shWs]
    refine ⟨?_, ?_, ?_⟩
    · show (plW (tW t) && plWs (tsW ts)) = true
      rw [h1, a]; rfl
    · show max (wdep (tW t)) (wdeps (tsW ts)) ≤ 1
      omega
    · show (shW (tW t) && shWs (tsW ts)) = true
      rw [h3, c]; rfl
theorem sameT (n : Nat) (ts : List Tk) (h : ts.length ≤ 1000000) (M : Mem) : callP 2 (TT (n + 3) .f__law_same) [.tup (tsW ts), .tup (tsW ts)] M = .ok (.bl true) M := by
  obtain ⟨a, b, c⟩ := tsW_pl ts
  refine same_all (n + 1) (tsW ts) a ?_ (by omega) M
  show (decide ((tsW ts).length ≤ 1000000) && shWs (tsW ts)) = true
  rw [c, List.length_map, decide_eq_true h]; rfl
theorem toksF (n : Nat) (r : List Pc) (h : depR r ≤ n) (hb : (tkR r).length ≤ 1000000) (M : Mem) : callF 1 (TT (n + 2) .f_tokens) [rW r] M = .ok (.loc M.length) (M ++ [.lst (tsW (tkR r))]) :=
  callF_ok rfl (by simp [lfs, lf, psW_lf]) (toks_run n r h hb) rfl (tsW_lf _)
theorem psW_cut (r : List Pc) (k : Nat) (h : k ≤ r.length) : cutW (psW r) none (some (k : Int)) = psW (r.take k) ∧ cutW (psW r) (some (k : Int)) none = psW (r.drop k) := by
  have e : ∀ r : List Pc, psW r = r.map pW := fun r => by
    induction r with
    | nil => rfl
    | cons p r ih => show pW p :: psW r = _; rw [ih]; rfl
  rw [e r, e, e, cutW_map, cutW_map]
  have nk : ¬ ((k : Int) < 0) := by omega
  have s1 : HT.sIx r.length r.length (some (k : Int)) = k := by simp [HT.sIx, nk]; omega
  have s2 : HT.sIx r.length 0 (some (k : Int)) = k := by simp [HT.sIx, nk]; omega
  have s3 : HT.sIx r.length 0 none = 0 := rfl
  have s4 : HT.sIx r.length r.length none = r.length := rfl
  rw [s1, s2, s3, s4]
  refine ⟨by simp, ?_⟩
  rw [List.take_of_length_le (by simp)]
theorem lap07 (n : Nat) (s tt i : W) (ts : List Tk) (row : List Pc) (p4 p5 p6 : Option W) (M : Mem) (hd : depR row ≤ n) (hl : ts.length ≤ 10000) (hr : tkR row = ts) :
    L_law_1 (TT (n + 4)) [some s, some (.lst (tsW ts)), some (rW row), some i, p4, p5, p6] M = .nx [some s, some (.lst (tsW ts)), some (rW row), some i, some (.loc M.length), p5, p6] (M ++ [.lst []]) := by
  have h1 := toksF (n + 2) row (by omega) (by rw [hr]; omega)
  rw [hr] at h1
  have h2 : isT1 .lst (.loc M.length) (M ++ [.lst (tsW ts)]) = .ok (.bl true) (M ++ [.lst (tsW ts)]) := isT_cell (ws := tsW ts) (by simp)
  have h3 : fTuple [.loc M.length] (M ++ [.lst (tsW ts)]) = .ok (.tup (tsW ts)) (M ++ [.lst (tsW ts)]) := by
    show (match cellL (M ++ [Cell.lst (tsW ts)])[M.length]? with | some ws => Res.ok (W.tup ws) _ | none => .bad) = _
    rw [List.getElem?_append_right (Nat.le_refl _), Nat.sub_self]; rfl
  have h4 : ∀ M, fTuple [.lst (tsW ts)] M = .ok (.tup (tsW ts)) M := fun _ => rfl
  have h5 := sameT (n + 1) ts (by omega)
  have h6 : ∀ r, mlk fClear r (.loc M.length) (M ++ [.lst (tsW ts)]) = (r (M ++ [.lst (tsW ts)])).bind (mlk2 fClear (.loc M.length)) := fun r => mlk_at (ws := tsW ts) (by simp)
  have h7 : mlk2 fClear (.loc M.length) [] (M ++ [.lst (tsW ts)]) = .ok .non (M ++ [.lst []]) := by
    rw [mlk2_at (ws := tsW ts) (by simp)]
    show Res.ok W.non ((M ++ [Cell.lst (tsW ts)]).set M.length (.lst [])) = _
    simp
  simp only [L_law_1, bind_ok', bind_bad', bind_exc', to_ok, to_bad, to_exc, seq_nx, seq_rt, seq_bk, seq_ct, seq_bad, seq_exc, fin_nx, fin_rt, fin_exc, run_eq, sSeq_eq, sNext_eq, sIf_eq, sSet_eq, sAug_eq, sRet_eq, sRetN_eq, sExpr_eq, sFor_eq, loop_nil, gN_eq, var_0, var_s, dC_eq, dBin_eq, dNot_eq, dAnd_eq, dOr_eq, dAndV_eq, dOrV_eq, dNotV_eq, dIf_eq, asBool_bl, toB_eq, dNil_eq, dCons_eq, dCall_eq, dTup_eq, dLst_eq, dImm_eq, dMut_eq, dStill_eq, dRange1_eq, dRange2_eq, add_ii, iadd_ii, sub_ii, and_ii, dNeg_eq, neg_i, cmp_ii, cmp_ss, eq_ii, eq_ss, eq_bb, len_t, len_l, len_f, max2_ii, min2_ii, int_b, dIsT_eq, isT_b, isT_i, isT_s, isT_n, isT_t, isT_l, dSl_eq, oNone_eq, oSome_eq, optI_i, sl_t, sl_l, sl_f, dM1_eq, dM1L_eq, m1k_s, f2_ss, dComp_eq, nox_ok, dYes_eq, dMl_eq, mlk_0, mlk2_0, mlk_1, mlk2_1, pop_ok, clear_ok, isT_loc0, isT_f, len_loc0, seqW_l, seqW_t, seqW_f, seqW_sg, is_nn, is_tn, when_true, nc0, nc1, nc2, nc3, nc4, nc5, nc6, nc7, nc8, ofStr_beq, dPick_eq, ofStr_eq, ixt0, ixt1, ixt2, ixt3, ixl0, ixl1, ixl2, ixl3, dEnumT_eq, enumK_t, pair_tt, dFld_eq, sFld_eq, sFldA_eq, dMeth_eq, List.map_cons, List.map_nil, List.length_cons, List.length_nil, List.replicate_succ, List.replicate_zero, List.cons_append, List.nil_append, List.set_cons_zero, List.set_cons_succ, Nat.reduceSub, Nat.reduceAdd, Nat.zero_add, if_true, Bool.false_eq_true, if_false, decide_true, decide_false, Bool.not_true, Bool.not_false, id, reduceIte, start_eq, List.length_map, Nat.reduceLeDiff, Int.reduceBEq, Bool.or_true, Bool.true_or, Bool.or_false, Bool.false_or, Bool.and_true, Bool.true_and, Bool.and_false, Bool.false_and, line_eq, reduceCtorEq, String.reduceEq, h1, h2, h3, h4, h5, h6, h7]
theorem law_end (F : Fn → FnD) (s sm rw0 : W) (L m at_ : Int) (ts1 ts2 ts : List Tk) (ρ' : Rho) (r1 r2 : W) (i : W) (p4 : Option W) (hts : ts1 ++ ts2 = ts) (hl : ts.length ≤ 10000)
    (hsome : ∀ M, callP 1 (F .f__law_some) [s] M = .ok (.lst (tsW ts)) M) (hb : ∀ M, callP 1 (F .f__law_built) [.lst (tsW ts)] M = .ok rw0 M)
    (lp : loopD (gN 3) (L_law_1 F) [.int 0, .int 1] [some s, some (.lst (tsW ts)), some rw0, none, none, none, none] [] = .nx [some s, some (.lst (tsW ts)), some rw0, some i, p4, none, none] [.lst [], .lst []])
    (hm : ∀ M, callP 3 (F .f__law_mixed) [s, .int 1, .int 42] M = .ok (.int m) M) (hlen : ∀ M, fLen [rw0] M = .ok (.int L) M) (hL : 0 < L + 1) (hat : m % (L + 1) = at_)
    (c1 : ∀ M, vSl rw0 none (some at_) M = .ok r1 M) (c2 : ∀ M, vSl rw0 (some at_) none M = .ok r2 M)
    (t1 : ∀ M : Mem, callF 1 (F .f_tokens) [r1] M = .ok (.loc M.length) (M ++ [.lst (tsW ts1)])) (t2 : ∀ M : Mem, callF 1 (F .f_tokens) [r2] M = .ok (.loc M.length) (M ++ [.lst (tsW ts2)]))
    (hs : ∀ M, callP 2 (F .f__law_same) [.tup (tsW ts), .tup (tsW ts)] M = .ok (.bl true) M) : runD 7 (B_law F) [s] [] = .ok (.bl true) [.lst [], .lst [], .lst (tsW ts1), .lst (tsW ts2)] := by
  have r2' : rng1 [.int 2] ([] : Mem) = .ok [.int 0, .int 1] [] := rng1_ok (by decide) (by decide)
  have v1 : vAdd (.loc 2) (.loc 3) [.lst [], .lst [], .lst (tsW ts1), .lst (tsW ts2)] = .ok (.lst (tsW ts)) [.lst [], .lst [], .lst (tsW ts1), .lst (tsW ts2)] := by
    rw [← hts] at hl
    rw [List.length_append] at hl
    show Res.when _ _ = _
    rw [when_t (by rw [sizeLine_eq, List.length_map, List.length_map]; omega), ← hts]
    simp [tsW]
  have h4 : ∀ M, fTuple [.lst (tsW ts)] M = .ok (.tup (tsW ts)) M := fun _ => rfl
  have i1 : isT1 .lst (.loc 2) [.lst [], .lst [], .lst (tsW ts1)] = .ok (.bl true) [.lst [], .lst [], .lst (tsW ts1)] := isT_cell rfl
  have t1' := t1 [.lst [], .lst []]
  have t2' := t2 [.lst [], .lst [], .lst (tsW ts1)]
  simp only [List.length_cons, List.length_nil, List.cons_append, List.nil_append, Nat.zero_add, Nat.reduceAdd] at t1' t2'
  simp only [B_law, bind_ok', bind_bad', bind_exc', to_ok, to_bad, to_exc, seq_nx, seq_rt, seq_bk, seq_ct, seq_bad, seq_exc, fin_nx, fin_rt, fin_exc, run_eq, sSeq_eq, sNext_eq, sIf_eq, sSet_eq, sAug_eq, sRet_eq, sRetN_eq, sExpr_eq, sFor_eq, loop_nil, gN_eq, var_0, var_s, dC_eq, dBin_eq, dNot_eq, dAnd_eq, dOr_eq, dAndV_eq, dOrV_eq, dNotV_eq, dIf_eq, asBool_bl, toB_eq, dNil_eq, dCons_eq, dCall_eq, dTup_eq, dLst_eq, dImm_eq, dMut_eq, dStill_eq, dRange1_eq, dRange2_eq, add_ii, iadd_ii, sub_ii, and_ii, dNeg_eq, neg_i, cmp_ii, cmp_ss, eq_ii, eq_ss, eq_bb, max2_ii, min2_ii, int_b, dIsT_eq, isT_b, isT_i, isT_s, isT_n, isT_t, isT_l, dSl_eq, oNone_eq, oSome_eq, optI_i, sl_t, sl_l, sl_f, dM1_eq, dM1L_eq, m1k_s, f2_ss, dComp_eq, nox_ok, dYes_eq, dMl_eq, mlk_0, mlk2_0, mlk_1, mlk2_1, pop_ok, clear_ok, isT_loc0, isT_f, len_loc0, seqW_l, seqW_t, seqW_f, seqW_sg, is_nn, is_tn, when_true, nc0, nc1, nc2, nc3, nc4, nc5, nc6, nc7, nc8, ofStr_beq, dPick_eq, ofStr_eq, ixt0, ixt1, ixt2, ixt3, ixl0, ixl1, ixl2, ixl3, dEnumT_eq, enumK_t, pair_tt, dFld_eq, sFld_eq, sFldA_eq, dMeth_eq, List.map_cons, List.map_nil, List.length_cons, List.length_nil, List.replicate_succ, List.replicate_zero, List.cons_append, List.nil_append, List.set_cons_zero, List.set_cons_succ, Nat.reduceSub, Nat.reduceAdd, Nat.zero_add, if_true, Bool.false_eq_true, if_false, decide_true, decide_false, Bool.not_true, Bool.not_false, id, reduceIte, start_eq, List.length_map, Nat.reduceLeDiff, Int.reduceBEq, Bool.or_true, Bool.true_or, Bool.or_false, Bool.false_or, Bool.and_true, Bool.true_and, Bool.and_false, Bool.false_and, line_eq, reduceCtorEq, String.reduceEq, hsome, hb, r2', lp, hm, hlen, mod_ok hL, hat, c1, c2, t1', t2', i1, v1, h4, hs]
theorem law_true (ns : List Int) (h : ns.length ≤ 63) : ∃ M, TT 20 .f_law [.fro (ns.map .int)] [] = .ok (.bl true) M := by
  obtain ⟨ts, row, g, hsome⟩ := some_ok ns h 15
  have hbu := builtC 18 ts row g.run g.ok (by have := g.len; omega)
  have tk := run_row g.run
  have hd := g.dep
  have hl := g.len
  have hs := isScr_fro ns
  obtain ⟨m, hm, m0, _⟩ := mixedC ns _ hs 1 42 17 (by omega) (by omega) (by omega) (by decide) (by decide)
  have l0 : 0 < (row.length : Int) + 1 := by omega
  have a0 := Int.emod_nonneg m (show (row.length : Int) + 1 ≠ 0 by omega)
  have a1 := Int.emod_lt_of_pos m l0
  obtain ⟨k, hk⟩ : ∃ k : Nat, m % ((row.length : Int) + 1) = (k : Int) := ⟨(m % ((row.length : Int) + 1)).toNat, by omega⟩
  have hk1 : k ≤ row.length := by omega
  obtain ⟨c1, c2⟩ := psW_cut row k hk1
  have htk : tkR (row.take k) ++ tkR (row.drop k) = ts := by rw [← tkR_append, List.take_append_drop, tk]
  have hle : (tkR (row.take k)).length + (tkR (row.drop k)).length = ts.length := by rw [← htk, List.length_append]
  have dsub : ∀ l : List Pc, (∀ p ∈ l, p ∈ row) → depR l ≤ 12 := fun l hl => by
    have : ∀ (l : List Pc), (∀ p ∈ l, depP p ≤ 12) → depR l ≤ 12 := fun l => by
      induction l with
      | nil => intro _; exact Nat.zero_le _
      | cons p l ih => intro h; have := h p (List.mem_cons_self ..); have := ih fun q hq => h q (List.mem_cons_of_mem _ hq); simp only [depR]; omega
    exact this l fun p hp => by have := depR_le (hl p hp); omega
  have d1 := dsub (row.take k) fun p hp => List.mem_of_mem_take hp
  have d2 := dsub (row.drop k) fun p hp => List.mem_of_mem_drop hp
  have lp : loopD (gN 3) (L_law_1 (TT 19)) [.int 0, .int 1] [some (scr ns), some (.lst (tsW ts)), some (rW row), none, none, none, none] [] = .nx [some (scr ns), some (.lst (tsW ts)), some (rW row), some (.int 1), some (.loc 1), none, none] [.lst [], .lst []] := by
    rw [loop_nx rfl (lap07 15 (scr ns) (scr ns) (.int 0) ts row none none none [] (by omega) (by omega) tk), loop_nx rfl (lap07 15 (scr ns) (scr ns) (.int 1) ts row _ none none _ (by omega) (by omega) tk), loop_nil]
    rfl
  refine ⟨[.lst [], .lst [], .lst (tsW (tkR (row.take k))), .lst (tsW (tkR (row.drop k)))], ?_⟩
  rw [TT_law 19]
  exact law_end (TT 19) (scr ns) (scr ns) (rW row) (row.length : Int) m (k : Int) (tkR (row.take k)) (tkR (row.drop k)) ts [] (rW (row.take k)) (rW (row.drop k)) (.int 1) (some (.loc 1)) htk (by omega) hsome hbu lp hm (fun M => by rw [len_t, psW_len]) l0 hk
    (fun M => by rw [sl_t, c1]) (fun M => by rw [sl_t, c2]) (toksF 17 _ (by omega) (by omega)) (toksF 17 _ (by omega) (by omega)) (sameT 16 ts (by omega))

end K07

open PySem PySem.W PyProof.Rows
set_option maxRecDepth 100000 in
set_option maxHeartbeats 0 in
theorem PySem.Challenge.cw_linepress_k07_tokens_told_holds : PySem.Challenge.rw_linepress_k07_tokens_told.Holds := by
  w_on; o_law; k_head; (case hw => w_witness2)
  k_fill
  refine LP.walk_lp (l := PySem.Challenge.rw_linepress_k07_tokens_told) (k := 2 * 20) (x := "_law_script") (F := K07.TT 20 .f_law) rfl rfl ⟨rfl, by decide, by decide⟩ (fun w h Y => PySem.W.kIn_of Y) ?F K07.law_true
  case F =>
    intro w mg fa h KX G hmg
    refine' K07.all_mk KX G hmg ?a0 ?l0 ?c0 ?k0 ?a1 ?l1 ?c1 ?k1 ?a2 ?l2 ?c2 ?k2 ?a3 ?l3 ?c3 ?k3 ?a4 ?l4 ?c4 ?k4 ?a5 ?l5 ?c5 ?k5 ?a6 ?l6 ?c6 ?k6 ?a7 ?l7 ?c7 ?k7 ?a8 ?l8 ?c8 ?k8 ?a9 ?l9 ?c9 ?k9 ?a10 ?l10 ?c10 ?k10 ?a11 ?l11 ?c11 ?k11 ?z_bool ?z_enumerate ?z_int ?z_isinstance ?z_len ?z_list ?z_max ?z_min ?z_range ?z_str ?z_tuple
    (case a0 => k_is)
    (case l0 => k_is)
    (case c0 => k_is)
    (case k0 => k_is)
    (case a1 => k_is)
    (case l1 => k_is)
    (case c1 => k_is)
    (case k1 => k_is)
    (case a2 => k_is)
    (case l2 => k_is)
    (case c2 => k_is)
    (case k2 => k_is)
    (case a3 => k_is)
    (case l3 => k_is)
    (case c3 => k_is)
    (case k3 => k_is)
    (case a4 => k_is)
    (case l4 => k_is)
    (case c4 => k_is)
    (case k4 => k_is)
    (case a5 => k_is)
    (case l5 => k_is)
    (case c5 => k_is)
    (case k5 => k_is)
    (case a6 => k_is)
    (case l6 => k_is)
    (case c6 => k_is)
    (case k6 => k_is)
    (case a7 => k_is)
    (case l7 => k_is)
    (case c7 => k_is)
    (case k7 => k_is)
    (case a8 => k_is)
    (case l8 => k_is)
    (case c8 => k_is)
    (case k8 => k_is)
    (case a9 => k_is)
    (case l9 => k_is)
    (case c9 => k_is)
    (case k9 => k_is)
    (case a10 => k_is)
    (case l10 => k_is)
    (case c10 => k_is)
    (case k10 => k_is)
    (case a11 => k_is)
    (case l11 => k_is)
    (case c11 => k_is)
    (case k11 => k_is)
    (case z_bool => k_is)
    (case z_enumerate => k_is)
    (case z_int => k_is)
    (case z_isinstance => k_is)
    (case z_len => k_is)
    (case z_list => k_is)
    (case z_max => k_is)
    (case z_min => k_is)
    (case z_range => k_is)
    (case z_str => k_is)
    (case z_tuple => k_is)
