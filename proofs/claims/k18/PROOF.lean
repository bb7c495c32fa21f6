import PyProof.Rows.All
import Wide.All
import OpenK.AllK
import Wide.FinOn
import HandS.ForMost
import HandS.IsInst
import HandS.ForExc
import HandS.Flow
import HandS.ExcInit
import HandS.SortInts
import HandS.RaiseMore
import HandS.Wide
import HandS.TupSets
import KE.KDictKeyed
import KE.KDictDisplayH
import HandS.Small
import HandS.ExcField
import HandS.WideBits
import HandS.More
import HandS.TupAny
import HandS.Strs
import KE.GoesMore
import KE.GoesNew
import HandS.Deep
import KE.GoesDict
import HandS.DictComp
import HandS.SetKeys
import KE.DatumOrd
import HandS.TupLen
import HandS.EndBits
import PySem.Challenge.RW_howeverlost_k18_shortest_walks
set_option Elab.async false
set_option linter.all false
set_option maxRecDepth 100000
set_option maxHeartbeats 1000000
/-! Data layer: values as trees (D), what of them is owned, frozen; canonical readings. -/
namespace Bx
open PySem L2

inductive Kd where
  | lst | tup | wl | wt
  | dk (ks : List Key) | dt (ks : List (List Key))
  | dn (ks : List NestedKey) | st (ks : List (List Int))
  | ins (c : Str) (fn : List Str)

inductive D where
  | non | bl (b : Bool) | int (i : Int) | str (x : Str) | ty (n : String)
  | nd (k : Kd) (o : Bool) (xs : List D)

abbrev Fp := Addr → Nat

mutual
def frz : D → D
  | .non => .non | .bl b => .bl b | .int i => .int i | .str x => .str x | .ty n => .ty n
  | .nd k _ xs => .nd k false (frzs xs)
def frzs : List D → List D
  | [] => []
  | x :: xs => frz x :: frzs xs
end

structure Gc where
  K : PySem.W.Frag
  ca : Str → Addr
  P : Program
  w : World
/-- a dict whose keys are tuples of any depth; what its keys' tuples hold is told apart -/
def nDict (P : Program) (w : World) (a : Addr) (es : List (NestedKey × V × V)) : HO := .ext fun h => (a == sysModules) = false ∧ es.length ≤ sizeLine ∧ ∃ xs : List (NestedKey × Addr × Value),
  Paired (fun (p : NestedKey × V × V) (q : NestedKey × Addr × Value) => p.1 = q.1 ∧ p.2.1 = .ref q.2.1 ∧ RelV p.2.2 q.2.2) es xs ∧
  ∃ o ds ep, h.get? a = some o ∧ o.ExactDict ∧ o.data = .dict ds ep ∧ ds.toList = xs.map (entryOfKey (nestedKind P w)) ∧ (xs.map (·.1)).Nodup

def At (G : Gc) (H : Hp) (a : Addr) : Kd → List V → Prop
  | .lst, vs => H a = some (.lst vs)
  | .tup, vs => H a = some (.tup vs)
  | .wl, vs => SqL G.K H a vs
  | .wt, vs => SqT G.K H a vs
  | .dk ks, vs => (ks.length = vs.length ∧ ks.Nodup) ∧ H a = some (.dK (ks.zip vs))
  | .dt ks, vs => (ks.length = vs.length ∧ ks.Nodup) ∧ H a = some (.dT (ks.zip vs))
  | .dn ks, vs => ∃ es : List (NestedKey × V × V), (es.map (·.1) = ks ∧ ks.Nodup ∧ es.flatMap (fun p => [p.2.1, p.2.2]) = vs) ∧ H a = some (nDict G.P G.w a es)
  | .st ks, vs => ∃ L : List (Addr × List Int), (ks.length = vs.length ∧ (∀ p ∈ L, (p.2, V.ref p.1) ∈ ks.zip vs) ∧ ∀ k ∈ ks, k ∈ L.map (·.2)) ∧ H a = some (SetTO G.P G.w a L)
  | .ins c fn, vs => fn.length = vs.length ∧ ∃ dx, H a = some (.ins (G.ca c) dx (fn.zip vs))
/-- a kind that may be owned -/
def Kd.ow : Kd → Bool
  | .wl => false
  | .wt => false
  | _ => true

mutual
inductive Rp (G : Gc) (Hs H : Hp) : V → D → Fp → Prop
  | non {f} (z : ∀ b, f b = 0) : Rp G Hs H .non .non f
  | bl {b f} (z : ∀ b, f b = 0) : Rp G Hs H (.bl b) (.bl b) f
  | int {i f} (z : ∀ b, f b = 0) : Rp G Hs H (.int i) (.int i) f
  | str {x f} (z : ∀ b, f b = 0) : Rp G Hs H (.str x) (.str x) f
  | ty {n f} (z : ∀ b, f b = 0) : Rp G Hs H (.ty n) (.ty n) f
  | sh {a k vs xs f} (h : At G Hs a k vs) (r : Rps G Hs H vs xs f) (z : ∀ b, f b = 0) : Rp G Hs H (.ref a) (.nd k false xs) f
  | own {a k vs xs f g} (h : At G H a k vs) (w : k.ow = true) (n : Hs a = none) (r : Rps G Hs H vs xs f) (e : ∀ b, g b = f b + if b = a then 1 else 0) : Rp G Hs H (.ref a) (.nd k true xs) g
inductive Rps (G : Gc) (Hs H : Hp) : List V → List D → Fp → Prop
  | nil {f} (z : ∀ b, f b = 0) : Rps G Hs H [] [] f
  | cons {v d f vs ds g h} (r : Rp G Hs H v d f) (rs : Rps G Hs H vs ds g) (e : ∀ b, h b = f b + g b) : Rps G Hs H (v :: vs) (d :: ds) h
end

theorem Same.seqT {K : PySem.W.Frag} {H H' : Hp} {a : Addr} {xs : List V} (e : Same H H') (h : SqT K H a xs) : SqT K H' a xs := by
  rcases h with (h | ⟨o, h⟩) | h
  · exact .inl (.inl (e _ _ h))
  · exact .inl (.inr ⟨o, e _ _ h⟩)
  · exact .inr h

section
variable {G : Gc} {Hs Hs' H H' : Hp} {v : V} {d : D} {f g : Fp} {vs : List V} {ds : List D} {a : Addr} {k : Kd}

theorem At.mono (s : Same Hs Hs') (h : At G Hs a k vs) : At G Hs' a k vs := by
  cases k with
  | lst => exact s _ _ h
  | tup => exact s _ _ h
  | wl => exact Same.seq s h
  | wt => exact Same.seqT s h
  | dk ks => exact ⟨h.1, s _ _ h.2⟩
  | dt ks => exact ⟨h.1, s _ _ h.2⟩
  | dn ks => obtain ⟨es, h1, h2⟩ := h; exact ⟨es, h1, s _ _ h2⟩
  | st ks => obtain ⟨es, h1, h2⟩ := h; exact ⟨es, h1, s _ _ h2⟩
  | ins c fn => obtain ⟨h1, dx, h2⟩ := h; exact ⟨h1, dx, s _ _ h2⟩
theorem Rd.eq {u : HO} (e : H' a = H a) (h : Rd H a u) : Rd H' a u := by
  rcases h with h | ⟨o, h⟩
  · exact .inl (e.trans h)
  · exact .inr ⟨o, e.trans h⟩
theorem At.eq (e : H' a = H a) (h : At G H a k vs) : At G H' a k vs := by
  cases k with
  | lst => exact e.trans h
  | tup => exact e.trans h
  | wl => exact Or.imp_left (Rd.eq e) h
  | wt => exact Or.imp_left (Rd.eq e) h
  | dk ks => exact ⟨h.1, e.trans h.2⟩
  | dt ks => exact ⟨h.1, e.trans h.2⟩
  | dn ks => obtain ⟨es, h1, h2⟩ := h; exact ⟨es, h1, e.trans h2⟩
  | st ks => obtain ⟨es, h1, h2⟩ := h; exact ⟨es, h1, e.trans h2⟩
  | ins c fn => obtain ⟨h1, dx, h2⟩ := h; exact ⟨h1, dx, e.trans h2⟩
theorem At.live (h : At G H a k vs) (w : k.ow = true) : H a ≠ none := by
  cases k with
  | lst => intro z; rw [show H a = some (.lst vs) from h] at z; cases z
  | tup => intro z; rw [show H a = some (.tup vs) from h] at z; cases z
  | wl => cases w
  | wt => cases w
  | dk ks => intro z; rw [h.2] at z; cases z
  | dt ks => intro z; rw [h.2] at z; cases z
  | dn ks => obtain ⟨es, _, h2⟩ := h; intro z; rw [h2] at z; cases z
  | st ks => obtain ⟨es, _, h2⟩ := h; intro z; rw [h2] at z; cases z
  | ins c fn => obtain ⟨h1, dx, h2⟩ := h; intro z; rw [h2] at z; cases z

theorem At.nofrz (h : At G H a k vs) (w : k.ow = true) : ∀ od u, H a ≠ some (.frz od u) := by
  intro od u z
  cases k with
  | lst => rw [show H a = some (.lst vs) from h] at z; cases z
  | tup => rw [show H a = some (.tup vs) from h] at z; cases z
  | wl => cases w
  | wt => cases w
  | dk ks => rw [h.2] at z; cases z
  | dt ks => rw [h.2] at z; cases z
  | dn ks => obtain ⟨es, _, h2⟩ := h; rw [h2] at z; cases z
  | st ks => obtain ⟨es, _, h2⟩ := h; rw [h2] at z; cases z
  | ins c fn => obtain ⟨h1, dx, h2⟩ := h; rw [h2] at z; cases z
mutual
theorem Rp.mono {v : V} {d : D} {f : Fp} (s : Same Hs Hs') : Rp G Hs H v d f → (∀ b, f b ≠ 0 → H' b = H b ∧ Hs' b = none) → Rp G Hs' H' v d f
  | .non z, _ => .non z
  | .bl z, _ => .bl z
  | .int z, _ => .int z
  | .str z, _ => .str z
  | .ty z, _ => .ty z
  | .sh h r z, k => .sh (h.mono s) (Rps.mono s r fun b hb => absurd (z b) hb) z
  | .own (a := a) h w n r e, k => by
    have ka := k a (by rw [e a, if_pos rfl]; omega)
    exact .own (h.eq ka.1) w ka.2 (Rps.mono s r fun b hb => k b (by rw [e b]; omega)) e
theorem Rps.mono {vs : List V} {ds : List D} {f : Fp} (s : Same Hs Hs') : Rps G Hs H vs ds f → (∀ b, f b ≠ 0 → H' b = H b ∧ Hs' b = none) → Rps G Hs' H' vs ds f
  | .nil z, _ => .nil z
  | .cons r rs e, k => .cons (Rp.mono s r fun b hb => k b (by rw [e b]; omega)) (Rps.mono s rs fun b hb => k b (by rw [e b]; omega)) e
end
mutual
theorem Rp.live {v : V} {d : D} {f : Fp} : Rp G Hs H v d f → ∀ b, f b ≠ 0 → H b ≠ none ∧ Hs b = none
  | .non z, b, hb => absurd (z b) hb
  | .bl z, b, hb => absurd (z b) hb
  | .int z, b, hb => absurd (z b) hb
  | .str z, b, hb => absurd (z b) hb
  | .ty z, b, hb => absurd (z b) hb
  | .sh h r z, b, hb => absurd (z b) hb
  | .own (a := a) h w n r e, b, hb => by
    by_cases hba : b = a
    · subst hba; exact ⟨h.live w, n⟩
    · rw [e b, if_neg hba] at hb
      exact Rps.live r b hb
theorem Rps.live {vs : List V} {ds : List D} {f : Fp} : Rps G Hs H vs ds f → ∀ b, f b ≠ 0 → H b ≠ none ∧ Hs b = none
  | .nil z, b, hb => absurd (z b) hb
  | .cons (f := f1) (g := g1) r rs e, b, hb => by
    by_cases h1 : f1 b = 0
    · exact Rps.live rs b (by rw [e b, h1] at hb; simpa using hb)
    · exact Rp.live r b h1
end
mutual
/-- what is owned is laid into the frozen part -/
theorem Rp.frz {v : V} {d : D} {f : Fp} (s : Same Hs Hs') {f0 : Fp} (z0 : ∀ b, f0 b = 0) : Rp G Hs H v d f → (∀ b, f b ≠ 0 → Hs' b = H b) → Rp G Hs' H v (frz d) f0
  | .non z, _ => .non z0
  | .bl z, _ => .bl z0
  | .int z, _ => .int z0
  | .str z, _ => .str z0
  | .ty z, _ => .ty z0
  | .sh h r z, k => .sh (h.mono s) (Rps.frz s z0 r fun b hb => absurd (z b) hb) z0
  | .own (a := a) h w n r e, k => by
    have ka := k a (by rw [e a, if_pos rfl]; omega)
    exact .sh (h.eq ka) (Rps.frz s z0 r fun b hb => k b (by rw [e b]; omega)) z0
theorem Rps.frz {vs : List V} {ds : List D} {f : Fp} (s : Same Hs Hs') {f0 : Fp} (z0 : ∀ b, f0 b = 0) : Rps G Hs H vs ds f → (∀ b, f b ≠ 0 → Hs' b = H b) → Rps G Hs' H vs (frzs ds) f0
  | .nil z, _ => .nil z0
  | .cons r rs e, k => .cons (Rp.frz s z0 r fun b hb => k b (by rw [e b]; omega)) (Rps.frz s z0 rs fun b hb => k b (by rw [e b]; omega)) (fun b => by rw [z0 b])
end
mutual
theorem Rp.fp {v : V} {d : D} {f f' : Fp} : Rp G Hs H v d f → (∀ b, f' b = f b) → Rp G Hs H v d f'
  | .non z, e => .non fun b => (e b).trans (z b)
  | .bl z, e => .bl fun b => (e b).trans (z b)
  | .int z, e => .int fun b => (e b).trans (z b)
  | .str z, e => .str fun b => (e b).trans (z b)
  | .ty z, e => .ty fun b => (e b).trans (z b)
  | .sh h r z, e => .sh h (Rps.fp r e) fun b => (e b).trans (z b)
  | .own h w n r e', e => .own h w n r fun b => (e b).trans (e' b)
theorem Rps.fp {vs : List V} {ds : List D} {f f' : Fp} : Rps G Hs H vs ds f → (∀ b, f' b = f b) → Rps G Hs H vs ds f'
  | .nil z, e => .nil fun b => (e b).trans (z b)
  | .cons r rs e', e => .cons r rs fun b => (e b).trans (e' b)
end
theorem Rps.len : ∀ {vs : List V} {ds : List D} {f : Fp}, Rps G Hs H vs ds f → vs.length = ds.length
  | _, _, _, .nil _ => rfl
  | _, _, _, .cons _ rs _ => congrArg (· + 1) rs.len
theorem Rps.app : ∀ {vs ws : List V} {ds es : List D} {f g h : Fp}, Rps G Hs H vs ds f → Rps G Hs H ws es g → (∀ b, h b = f b + g b) → Rps G Hs H (vs ++ ws) (ds ++ es) h
  | _, _, _, _, _, _, _, .nil z, r, e => r.fp fun b => by rw [e b, z b]; omega
  | _, _, _, _, _, g, h, .cons (f := f1) (g := g1) r rs e', r2, e => .cons r (Rps.app rs r2 (h := fun b => g1 b + g b) fun b => rfl) fun b => by rw [e b, e' b]; show _ = f1 b + (g1 b + g b); omega
/-- one of them, and the others -/
theorem Rps.get : ∀ {vs : List V} {ds : List D} {f : Fp} {i : Nat} {d : D}, Rps G Hs H vs ds f → ds[i]? = some d →
    ∃ (v : V) (f1 f2 : Fp), vs[i]? = some v ∧ Rp G Hs H v d f1 ∧ (∀ b, f b = f1 b + f2 b) ∧
      (∀ v' d' f1' f', Rp G Hs H v' d' f1' → (∀ b, f' b = f1' b + f2 b) → Rps G Hs H (vs.set i v') (ds.set i d') f')
  | _, _, _, i, _, .nil _, h => by simp at h
  | _, _, _, 0, _, .cons (f := f1) (g := g1) r rs e, h => by
    simp at h; subst h
    exact ⟨_, f1, g1, rfl, r, e, fun v' d' f1' f' r' e' => .cons r' rs e'⟩
  | _, _, _, i + 1, _, .cons (f := f1) (g := g1) r rs e, h => by
    obtain ⟨v, a1, a2, h1, h2, h3, h4⟩ := Rps.get rs (i := i) (by simpa using h)
    refine ⟨v, a1, fun b => f1 b + a2 b, by simpa using h1, h2, fun b => by rw [e b, h3 b]; show _ = a1 b + (f1 b + a2 b); omega, fun v' d' f1' f' r' e' => ?_⟩
    exact .cons r (h4 v' d' f1' (fun b => f1' b + a2 b) r' fun b => rfl) fun b => by rw [e' b]; show f1' b + (f1 b + a2 b) = f1 b + (f1' b + a2 b); omega
end

/-! ### slots -/
inductive Sls (G : Gc) (Hs H : Hp) : L2.St → List (Option D) → Fp → Prop
  | nil {f} (z : ∀ b, f b = 0) : Sls G Hs H [] [] f
  | no {o σ e f} (r : Sls G Hs H σ e f) : Sls G Hs H (o :: σ) (none :: e) f
  | yes {v d f σ e g h} (r : Rp G Hs H v d f) (rs : Sls G Hs H σ e g) (q : ∀ b, h b = f b + g b) : Sls G Hs H (some v :: σ) (some d :: e) h
section
variable {G : Gc} {Hs Hs' H H' : Hp}
theorem Sls.fp : ∀ {σ : L2.St} {e : List (Option D)} {f f' : Fp}, Sls G Hs H σ e f → (∀ b, f' b = f b) → Sls G Hs H σ e f'
  | _, _, _, _, .nil z, q => .nil fun b => (q b).trans (z b)
  | _, _, _, _, .no r, q => .no (r.fp q)
  | _, _, _, _, .yes r rs e, q => .yes r rs fun b => (q b).trans (e b)
theorem Sls.mono (s : Same Hs Hs') : ∀ {σ : L2.St} {e : List (Option D)} {f : Fp}, Sls G Hs H σ e f → (∀ b, f b ≠ 0 → H' b = H b ∧ Hs' b = none) → Sls G Hs' H' σ e f
  | _, _, _, .nil z, _ => .nil z
  | _, _, _, .no r, k => .no (r.mono s k)
  | _, _, _, .yes r rs e, k => .yes (r.mono s fun b hb => k b (by rw [e b]; omega)) (rs.mono s fun b hb => k b (by rw [e b]; omega)) e
theorem Sls.live : ∀ {σ : L2.St} {e : List (Option D)} {f : Fp}, Sls G Hs H σ e f → ∀ b, f b ≠ 0 → H b ≠ none ∧ Hs b = none
  | _, _, _, .nil z, b, hb => absurd (z b) hb
  | _, _, _, .no r, b, hb => r.live b hb
  | _, _, _, .yes (f := f1) r rs e, b, hb => by
    by_cases h1 : f1 b = 0
    · exact rs.live b (by rw [e b, h1] at hb; simpa using hb)
    · exact r.live b h1
theorem Sls.len : ∀ {σ : L2.St} {e : List (Option D)} {f : Fp}, Sls G Hs H σ e f → σ.length = e.length
  | _, _, _, .nil _ => rfl
  | _, _, _, .no r => congrArg (· + 1) r.len
  | _, _, _, .yes _ rs _ => congrArg (· + 1) rs.len
/-- one slot and the others: its value, what is left without it, what may be put there -/
theorem Sls.get : ∀ {σ : L2.St} {e : List (Option D)} {f : Fp} {i : Nat} {d : D}, Sls G Hs H σ e f → e[i]? = some (some d) →
    ∃ (v : V) (f1 f2 : Fp), σ[i]? = some (some v) ∧ Rp G Hs H v d f1 ∧ (∀ b, f b = f1 b + f2 b) ∧ Sls G Hs H σ (e.set i none) f2
  | _, _, _, i, _, .nil _, h => by simp at h
  | _, _, _, 0, _, .no r, h => by simp at h
  | _, _, _, i + 1, _, .no r, h => by
    obtain ⟨v, f1, f2, h1, h2, h3, h4⟩ := Sls.get r (i := i) (by simpa using h)
    exact ⟨v, f1, f2, by simpa using h1, h2, h3, .no h4⟩
  | _, _, _, 0, _, .yes (f := f1) (g := g1) r rs q, h => by
    simp at h; subst h
    exact ⟨_, f1, g1, rfl, r, q, .no rs⟩
  | _, _, _, i + 1, _, .yes (f := f1) (g := g1) r rs q, h => by
    obtain ⟨v, a1, a2, h1, h2, h3, h4⟩ := Sls.get rs (i := i) (by simpa using h)
    exact ⟨v, a1, fun b => f1 b + a2 b, by simpa using h1, h2, fun b => by rw [q b, h3 b]; show _ = a1 b + (f1 b + a2 b); omega, .yes r h4 fun b => rfl⟩
/-- a value into a slot that holds none -/
theorem Sls.put : ∀ {σ : L2.St} {e : List (Option D)} {f g h : Fp} {i : Nat} {v : V} {d : D}, Sls G Hs H σ e f → e[i]? = some none → Rp G Hs H v d g → (∀ b, h b = g b + f b) →
    Sls G Hs H (σ.set i (some v)) (e.set i (some d)) h
  | _, _, _, _, _, i, _, _, .nil _, h, _, _ => by simp at h
  | _, _, _, _, _, 0, _, _, .no r, h, rp, q => .yes rp r q
  | _, _, _, _, _, i + 1, _, _, .no r, h, rp, q => .no (Sls.put r (by simpa using h) rp q)
  | _, _, _, _, _, 0, _, _, .yes r rs q, h, _, _ => by simp at h
  | _, _, _, g, _, i + 1, _, _, .yes (f := f1) (g := g1) r rs q, h, rp, q2 => .yes r (Sls.put rs (h := fun b => g b + g1 b) (by simpa using h) rp fun b => rfl) fun b => by rw [q2 b, q b]; show _ = f1 b + (g b + g1 b); omega
/-- a slot forgotten -/
theorem Sls.forget : ∀ {σ : L2.St} {e : List (Option D)} {f : Fp} (i : Nat), Sls G Hs H σ e f → ∃ (f1 f2 : Fp), (∀ b, f b = f1 b + f2 b) ∧ Sls G Hs H σ (e.set i none) f2
  | _, _, f, i, .nil z => ⟨fun _ => 0, f, fun b => (Nat.zero_add _).symm, .nil z⟩
  | _, _, f, 0, .no r => ⟨fun _ => 0, f, fun b => (Nat.zero_add _).symm, .no r⟩
  | _, _, f, i + 1, .no r => by
    obtain ⟨f1, f2, h1, h2⟩ := Sls.forget i r
    exact ⟨f1, f2, h1, .no h2⟩
  | _, _, _, 0, .yes (f := f1) (g := g1) r rs q => ⟨f1, g1, q, .no rs⟩
  | _, _, _, i + 1, .yes (f := f1) (g := g1) r rs q => by
    obtain ⟨a1, a2, h1, h2⟩ := Sls.forget i rs
    exact ⟨a1, fun b => f1 b + a2 b, fun b => by rw [q b, h1 b]; show _ = a1 b + (f1 b + a2 b); omega, .yes r h2 fun b => rfl⟩
/-- the slots' values may be any where nothing is known -/
theorem Sls.slot : ∀ {σ : L2.St} {e : List (Option D)} {f : Fp} {i : Nat} (o : Option V), Sls G Hs H σ e f → e[i]? = some none → Sls G Hs H (σ.set i o) e f
  | _, _, _, i, _, .nil _, h => by simp at h
  | _, _, _, 0, _, .no r, h => .no r
  | _, _, _, i + 1, o, .no r, h => .no (Sls.slot o r (by simpa using h))
  | _, _, _, 0, _, .yes r rs q, h => by simp at h
  | _, _, _, i + 1, o, .yes r rs q, h => .yes r (Sls.slot o rs (by simpa using h)) q
end

/-! ### the state: frozen part Hs, heap H, what is owned fe, what others hold P -/
def Lk : HO → Prop
  | .dK _ => True
  | .dT _ => True
  | .ext _ => True
  | _ => False
/-- what is frozen stands (a dict may be locked) -/
def Sm (Hs H : Hp) : Prop := ∀ a o, Hs a = some o → H a = some o ∨ (Lk o ∧ ∃ od, H a = some (.frz od o))
theorem Sm.rd {Hs H : Hp} {a : Addr} {o : HO} (s : Sm Hs H) (h : Hs a = some o) : Rd H a o := by
  rcases s a o h with h | ⟨_, od, h⟩
  · exact .inl h
  · exact .inr ⟨od, h⟩
theorem Sm.sqL {K : PySem.W.Frag} {Hs H : Hp} {a : Addr} {xs : List V} (s : Sm Hs H) (h : SqL K Hs a xs) : SqL K H a xs := by
  rcases h with (h | ⟨o, h⟩) | h
  · exact .inl (s.rd h)
  · rcases s _ _ h with h | ⟨z, _⟩
    · exact .inl (.inr ⟨o, h⟩)
    · exact z.elim
  · exact .inr h
theorem Sm.sqT {K : PySem.W.Frag} {Hs H : Hp} {a : Addr} {xs : List V} (s : Sm Hs H) (h : SqT K Hs a xs) : SqT K H a xs := by
  rcases h with (h | ⟨o, h⟩) | h
  · exact .inl (s.rd h)
  · rcases s _ _ h with h | ⟨z, _⟩
    · exact .inl (.inr ⟨o, h⟩)
    · exact z.elim
  · exact .inr h
theorem Sm.live {Hs H : Hp} {a : Addr} (s : Sm Hs H) (h : H a = none) : Hs a = none := by
  cases q : Hs a with
  | none => rfl
  | some o =>
    rcases s a o q with z | ⟨_, od, z⟩ <;> (rw [h] at z; cases z)

structure Wf (Hs H : Hp) (f : Fp) (P : Addr → Prop) : Prop where
  sm : Sm Hs H
  one : ∀ b, f b ≤ 1
  own : ∀ b, f b ≠ 0 → Hs b = none
  apart : ∀ b, P b → f b = 0
  live : ∀ b, P b → H b ≠ none
/-- behind a step: the frozen part has grown, what others hold is as it was -/
structure Aft (Hs H Hs' H' : Hp) (P : Addr → Prop) : Prop where
  sh : Same Hs Hs'
  keep : ∀ b, P b → Hs b = none → H' b = H b ∧ Hs' b = none
  mono : ∀ b, H' b = none → H b = none
  lk : ∀ b od u, H b = some (.frz od u) → H' b = some (.frz od u)
theorem Aft.refl (Hs H : Hp) (P : Addr → Prop) : Aft Hs H Hs H P := ⟨Same.refl _, fun _ _ h => ⟨rfl, h⟩, fun _ h => h, fun _ _ _ h => h⟩
theorem Aft.trans {Hs H Hs1 H1 Hs2 H2 : Hp} {P : Addr → Prop} (a : Aft Hs H Hs1 H1 P) (b : Aft Hs1 H1 Hs2 H2 P) : Aft Hs H Hs2 H2 P :=
  ⟨a.sh.trans b.sh, fun c hc hn => have z := a.keep c hc hn; ⟨(b.keep c hc z.2).1.trans z.1, (b.keep c hc z.2).2⟩, fun c h => a.mono c (b.mono c h), fun c od u h => b.lk c od u (a.lk c od u h)⟩
theorem Aft.weak {Hs H Hs1 H1 : Hp} {P P' : Addr → Prop} (a : Aft Hs H Hs1 H1 P) (h : ∀ b, P' b → P b) : Aft Hs H Hs1 H1 P' := ⟨a.sh, fun b hb hn => a.keep b (h b hb) hn, a.mono, a.lk⟩

/-- the exception at hand: its class, its attributes -/
structure Exc where
  c : Str
  fn : List Str
  xs : List D
/-- an environment: the slots' data, the exception at hand -/
structure En where
  sl : List (Option D)
  ex : Option Exc := none
structure Cc extends Gc where
  pins : List (Nat × V)
  xa : Option (Addr × Value × Option Addr)
def ExD (G : Gc) (Hs H : Hp) (dd : Addr) (x : Exc) : Prop := ∃ vs, Hs dd = some (.xd (x.fn.zip vs)) ∧ x.fn.length = vs.length ∧ Rps G Hs H vs x.xs fun _ => 0
def ExOk (C : Cc) (Hs H : Hp) (o : Option Exc) : Prop := match o with
  | none => True
  | some x => ∃ a dd, C.xa = some (a, .ref (C.ca x.c), some dd) ∧ ExD C.toGc Hs H dd x
structure Ok (C : Cc) (Hs H : Hp) (σ : L2.St) (e : En) (fe fx : Fp) (P : Addr → Prop) : Prop where
  wf : Wf Hs H (fun b => fe b + fx b) P
  sl : Sls C.toGc Hs H σ e.sl fe
  pn : ∀ p ∈ C.pins, σ[p.1]? = some (some p.2)
  ex : ExOk C Hs H e.ex
abbrev f0 : Fp := fun _ => 0

theorem ExD.mono {G : Gc} {Hs H Hs' H' : Hp} {dd : Addr} {x : Exc} (s : Same Hs Hs') (h : ExD G Hs H dd x) : ExD G Hs' H' dd x := by
  obtain ⟨vs, h1, h2, h3⟩ := h
  exact ⟨vs, s _ _ h1, h2, h3.mono s fun b hb => absurd rfl hb⟩
theorem ExOk.mono {C : Cc} {Hs H Hs' H' : Hp} {o : Option Exc} (s : Same Hs Hs') (h : ExOk C Hs H o) : ExOk C Hs' H' o := by
  cases o with
  | none => trivial
  | some x =>
    obtain ⟨a, dd, h1, h2⟩ := h
    exact ⟨a, dd, h1, h2.mono s⟩
section
variable {C : Cc} {Hs H Hs' H' : Hp} {σ : L2.St} {e : En} {fe fx fv : Fp} {P : Addr → Prop}
theorem Ok.sm (o : Ok C Hs H σ e fe fx P) : Sm Hs H := o.wf.sm
theorem Ok.liveX (o : Ok C Hs H σ e fe fx P) {b : Addr} (h : H b = none) : fe b = 0 := by
  by_cases z : fe b = 0
  · exact z
  · exact absurd h (o.sl.live b z).1
/-- what is held at hand goes to the others -/
theorem Ok.hold {v : V} {d : D} (o : Ok C Hs H σ e fe fv P) (r : Rp C.toGc Hs H v d fv) : Ok C Hs H σ e fe f0 (fun b => P b ∨ fv b ≠ 0) :=
  ⟨⟨o.wf.sm, fun b => by have := o.wf.one b; simp only [f0] at *; omega, fun b hb => o.wf.own b (by simp only [f0] at *; omega), fun b hb => by
      rcases hb with hb | hb
      · have := o.wf.apart b hb; simp only [f0] at *; omega
      · have := o.wf.one b; simp only [f0] at *; omega, fun b hb => by
      rcases hb with hb | hb
      · exact o.wf.live b hb
      · exact (r.live b hb).1⟩, o.sl, o.pn, o.ex⟩
theorem Ok.holds {vs : List V} {ds : List D} (o : Ok C Hs H σ e fe fv P) (r : Rps C.toGc Hs H vs ds fv) : Ok C Hs H σ e fe f0 (fun b => P b ∨ fv b ≠ 0) :=
  ⟨⟨o.wf.sm, fun b => by have := o.wf.one b; simp only [f0] at *; omega, fun b hb => o.wf.own b (by simp only [f0] at *; omega), fun b hb => by
      rcases hb with hb | hb
      · have := o.wf.apart b hb; simp only [f0] at *; omega
      · have := o.wf.one b; simp only [f0] at *; omega, fun b hb => by
      rcases hb with hb | hb
      · exact o.wf.live b hb
      · exact (r.live b hb).1⟩, o.sl, o.pn, o.ex⟩
/-- and back: fv was held -/
theorem Ok.back (o : Ok C Hs' H' σ e fe fx (fun b => P b ∨ fv b ≠ 0)) (one : ∀ b, fv b ≤ 1) (ap : ∀ b, P b → fv b = 0) (ow : ∀ b, fv b ≠ 0 → Hs b = none) (aft : Aft Hs H Hs' H' (fun b => P b ∨ fv b ≠ 0)) : Ok C Hs' H' σ e fe (fun b => fv b + fx b) P :=
  ⟨⟨o.wf.sm, fun b => by
      by_cases z : fv b = 0
      · have := o.wf.one b; omega
      · have := o.wf.apart b (.inr z); have := one b; omega, fun b hb => by
      by_cases z : fv b = 0
      · exact o.wf.own b (by omega)
      · exact (aft.keep b (.inr z) (ow b z)).2, fun b hb => by
      have := o.wf.apart b (.inl hb); have := ap b hb; omega, fun b hb => o.wf.live b (.inl hb)⟩, o.sl, o.pn, o.ex⟩
theorem Ok.fps {fe' fx' : Fp} (o : Ok C Hs H σ e fe fx P) (h : ∀ b, fe' b = fe b) (h2 : ∀ b, fx' b = fx b) : Ok C Hs H σ e fe' fx' P := by
  have e1 : fe' = fe := funext h
  have e2 : fx' = fx := funext h2
  subst e1 e2; exact o
/-- less is held -/
theorem Ok.less {fx' : Fp} (o : Ok C Hs H σ e fe fx P) (h : ∀ b, fx' b ≤ fx b) : Ok C Hs H σ e fe fx' P :=
  ⟨⟨o.wf.sm, fun b => by have := o.wf.one b; have := h b; omega, fun b hb => o.wf.own b (by have := h b; omega), fun b hb => by have := o.wf.apart b hb; have := h b; omega, o.wf.live⟩, o.sl, o.pn, o.ex⟩
/-- what is at hand is frozen -/
theorem Ok.fz (o : Ok C Hs H σ e fe (fun b => fv b + fx b) P) :
    ∃ Hs', Aft Hs H Hs' H P ∧ Ok C Hs' H σ e fe fx P ∧ ∀ b, Hs' b = (if fv b ≠ 0 then H b else Hs b) := by
  have s : Same Hs (fun b => if fv b ≠ 0 then H b else Hs b) := fun b u hb => by
    by_cases z : fv b = 0
    · show (if fv b ≠ 0 then H b else Hs b) = some u
      rw [if_neg (by omega)]; exact hb
    · have := o.wf.own b (by omega)
      rw [hb] at this; cases this
  refine ⟨fun b => if fv b ≠ 0 then H b else Hs b, ⟨s, fun b hb hn => ⟨rfl, ?_⟩, fun _ h => h, fun _ _ _ h => h⟩, ⟨⟨fun b u hb => ?_, fun b => by have := o.wf.one b; omega, fun b hb => ?_, fun b hb => by have := o.wf.apart b hb; omega, o.wf.live⟩, o.sl.mono s fun b hb => ⟨rfl, ?_⟩, o.pn, o.ex.mono s⟩, fun _ => rfl⟩
  · have := o.wf.apart b hb
    show (if fv b ≠ 0 then H b else Hs b) = none
    rw [if_neg (by omega)]; exact hn
  · by_cases z : fv b = 0
    · rw [if_neg (by omega)] at hb; exact o.wf.sm b u hb
    · rw [if_pos z] at hb; exact .inl hb
  · have := o.wf.one b
    rw [if_neg (by omega)]
    exact o.wf.own b (by omega)
  · have := o.wf.one b
    show (if fv b ≠ 0 then H b else Hs b) = none
    rw [if_neg (by omega)]
    exact o.wf.own b (by omega)
theorem Ok.freeze {v : V} {d : D} (o : Ok C Hs H σ e fe (fun b => fv b + fx b) P) (r : Rp C.toGc Hs H v d fv) :
    ∃ Hs', Aft Hs H Hs' H P ∧ Ok C Hs' H σ e fe fx P ∧ Rp C.toGc Hs' H v (frz d) f0 ∧ ∀ b, Hs' b = (if fv b ≠ 0 then H b else Hs b) := by
  obtain ⟨Hs', a, ok, he⟩ := o.fz
  exact ⟨Hs', a, ok, r.frz a.sh (fun _ => rfl) fun b hb => by rw [he b, if_pos hb], he⟩
theorem Ok.freezes {vs : List V} {ds : List D} (o : Ok C Hs H σ e fe fv P) (r : Rps C.toGc Hs H vs ds fv) :
    ∃ Hs', Aft Hs H Hs' H P ∧ Ok C Hs' H σ e fe f0 P ∧ Rps C.toGc Hs' H vs (frzs ds) f0 := by
  obtain ⟨Hs', a, ok, he⟩ := (o.fps (fe' := fe) (fx' := fun b => fv b + f0 b) (fun _ => rfl) fun _ => rfl).fz
  exact ⟨Hs', a, ok, r.frz a.sh (fun _ => rfl) fun b hb => by rw [he b, if_pos hb]⟩
end

/-! ### answers, canonical readings -/
inductive Rs (α : Type) where
  | bad
  | ok (a : α) (e : En)
  | exc (x : Exc) (e : En)
def Rs.bind {α β : Type} (r : Rs α) (k : α → En → Rs β) : Rs β := match r with
  | .bad => .bad
  | .ok a e => k a e
  | .exc x e => .exc x e
/-- an answer that may lack -/
def Rs.opt {α : Type} (o : Option α) (e : En) : Rs α := match o with
  | some z => .ok z e
  | none => .bad
inductive So where
  | bad | nx (e : En) | bk (e : En) | ct (e : En) | rt (d : D) (e : En) | exc (x : Exc) (e : En)

abbrev FE := En → Rs D
abbrev FT := En → Rs Bool
abbrev FS := En → So
/-- an argument: a value, or a slot that is handed on to be changed -/
inductive AV where
  | d (x : D) | io (i : Nat)
abbrev FA := En → Rs (List AV)
/-- arguments at hand -/
inductive Ra (G : Gc) (Hs H : Hp) (σ : L2.St) : List V → List AV → Fp → Prop
  | nil {f} (z : ∀ b, f b = 0) : Ra G Hs H σ [] [] f
  | d {v x f vs as g h} (r : Rp G Hs H v x f) (rs : Ra G Hs H σ vs as g) (e : ∀ b, h b = f b + g b) : Ra G Hs H σ (v :: vs) (.d x :: as) h
  | io {v i vs as g} (s : σ[i]? = some (some v)) (rs : Ra G Hs H σ vs as g) : Ra G Hs H σ (v :: vs) (.io i :: as) g

section
variable (C : Cc) (W : WX)
def XcK (Hs H : Hp) (P : Addr → Prop) (σ : L2.St) (x : Exc) (e' : En) : Prop :=
  ∀ dd Hs' H' fe', Aft Hs H Hs' H' P → Ok C Hs' H' σ e' fe' f0 P → ExD C.toGc Hs' H' dd x → W (.ref (C.ca x.c)) (some dd) σ H'
def EndE (r : Rs D) (Hs H : Hp) (P : Addr → Prop) (σ : L2.St) (Q : VK) : Prop := match r with
  | .bad => False
  | .ok d e' => ∀ v Hs' H' fe' fv, Aft Hs H Hs' H' P → Ok C Hs' H' σ e' fe' fv P → Rp C.toGc Hs' H' v d fv → Q v H'
  | .exc x e' => XcK C W Hs H P σ x e'
def EndT (r : Rs Bool) (Hs H : Hp) (P : Addr → Prop) (σ : L2.St) (Q : Bool → Hp → Prop) : Prop := match r with
  | .bad => False
  | .ok b e' => ∀ Hs' H' fe', Aft Hs H Hs' H' P → Ok C Hs' H' σ e' fe' f0 P → Q b H'
  | .exc x e' => XcK C W Hs H P σ x e'
def EndA (r : Rs (List AV)) (Hs H : Hp) (P : Addr → Prop) (σ : L2.St) (Q : List V → Hp → Prop) : Prop := match r with
  | .bad => False
  | .ok as e' => ∀ vs Hs' H' fe' fv, Aft Hs H Hs' H' P → Ok C Hs' H' σ e' fe' fv P → Ra C.toGc Hs' H' σ vs as fv → Q vs H'
  | .exc x e' => XcK C W Hs H P σ x e'
def EndS (r : So) (Hs H : Hp) (P : Addr → Prop) (N : Ends) : Prop := match r with
  | .bad => False
  | .nx e' => ∀ σ' Hs' H' fe', Aft Hs H Hs' H' P → Ok C Hs' H' σ' e' fe' f0 P → N.nx σ' H'
  | .bk e' => ∀ σ' Hs' H' fe', Aft Hs H Hs' H' P → Ok C Hs' H' σ' e' fe' f0 P → N.bk σ' H'
  | .ct e' => ∀ σ' Hs' H' fe', Aft Hs H Hs' H' P → Ok C Hs' H' σ' e' fe' f0 P → N.ct σ' H'
  | .rt d e' => ∀ v σ' Hs' H' fe' fv, Aft Hs H Hs' H' P → Ok C Hs' H' σ' e' fe' fv P → Rp C.toGc Hs' H' v d fv → N.rt v H'
  | .exc x e' => ∀ dd σ' Hs' H' fe', Aft Hs H Hs' H' P → Ok C Hs' H' σ' e' fe' f0 P → ExD C.toGc Hs' H' dd x → W (.ref (C.ca x.c)) (some dd) σ' H'
def canE (F : FE) : TE := fun σ H Q => ∃ e Hs fe P, Ok C Hs H σ e fe f0 P ∧ EndE C W (F e) Hs H P σ Q
def canT (F : FT) : TT := fun σ H Q => ∃ e Hs fe P, Ok C Hs H σ e fe f0 P ∧ EndT C W (F e) Hs H P σ Q
def canA (F : FA) : TA := fun σ H Q => ∃ e Hs fe P, Ok C Hs H σ e fe f0 P ∧ EndA C W (F e) Hs H P σ Q
def canS (F : FS) : TS := fun N σ H => ∃ e Hs fe P, Ok C Hs H σ e fe f0 P ∧ EndS C W (F e) Hs H P N
end

/-! ### judgements -/
def BE (X : Cx) (C : Cc) (W : WX) (e : Expr) (F : FE) : Prop := PE X e (canE C W F)
def BT (X : Cx) (C : Cc) (W : WX) (e : Expr) (F : FT) : Prop := PT X e (canT C W F)
def BA (X : Cx) (C : Cc) (W : WX) (es : List Expr) (F : FA) : Prop := PA X es (canA C W F)
def BS (X : Cx) (C : Cc) (W : WX) (s : Stmt) (F : FS) : Prop := PS X s (canS C W F)
def BSs (X : Cx) (C : Cc) (W : WX) (s : List Stmt) (F : FS) : Prop := PSs X s (canS C W F)
theorem _root_.L2.PE.imp {X : Cx} {e : Expr} {t t' : TE} (h : PE X e t) (i : ∀ σ H Q, t' σ H Q → t σ H Q) : PE X e t' := ⟨fun pins s σ H Q I q => h.run pins s σ H Q I (i _ _ _ q)⟩
theorem _root_.L2.PE.or {X : Cx} {e : Expr} {t t' : TE} (h : PE X e t) (h' : PE X e t') : PE X e (fun σ H Q => t σ H Q ∨ t' σ H Q) :=
  ⟨fun pins s σ H Q I q => q.elim (h.run pins s σ H Q I) (h'.run pins s σ H Q I)⟩
theorem _root_.L2.PT.imp {X : Cx} {e : Expr} {t t' : TT} (h : PT X e t) (i : ∀ σ H Q, t' σ H Q → t σ H Q) : PT X e t' := ⟨fun pins s σ H Q I q => h.run pins s σ H Q I (i _ _ _ q)⟩
theorem _root_.L2.PT.or {X : Cx} {e : Expr} {t t' : TT} (h : PT X e t) (h' : PT X e t') : PT X e (fun σ H Q => t σ H Q ∨ t' σ H Q) :=
  ⟨fun pins s σ H Q I q => q.elim (h.run pins s σ H Q I) (h'.run pins s σ H Q I)⟩
theorem _root_.L2.PW.imp {X : Cx} {e : Expr} {t t' : TT} (h : PW X e t) (i : ∀ σ H Q, t' σ H Q → t σ H Q) : PW X e t' := ⟨fun w pins s σ H Q I q => h.run w pins s σ H Q I (i _ _ _ q)⟩
theorem _root_.L2.PA.imp {X : Cx} {e : List Expr} {t t' : TA} (h : PA X e t) (i : ∀ σ H Q, t' σ H Q → t σ H Q) : PA X e t' := ⟨fun p pins s σ H Q I q => h.run p pins s σ H Q I (i _ _ _ q)⟩
theorem _root_.L2.PS.imp {X : Cx} {e : Stmt} {t t' : TS} (h : PS X e t) (i : ∀ D σ H, t' D σ H → t D σ H) : PS X e t' := ⟨fun pins s σ H D I q => h.run pins s σ H D I (i _ _ _ q)⟩
theorem _root_.L2.PS.or {X : Cx} {e : Stmt} {t t' : TS} (h : PS X e t) (h' : PS X e t') : PS X e (fun D σ H => t D σ H ∨ t' D σ H) :=
  ⟨fun pins s σ H D I q => q.elim (h.run pins s σ H D I) (h'.run pins s σ H D I)⟩
theorem _root_.L2.PSs.imp {X : Cx} {e : List Stmt} {t t' : TS} (h : PSs X e t) (i : ∀ D σ H, t' D σ H → t D σ H) : PSs X e t' := ⟨fun pins s σ H D I q => h.run pins s σ H D I (i _ _ _ q)⟩
end Bx

set_option Elab.async false
set_option linter.all false
set_option maxRecDepth 100000
set_option maxHeartbeats 1000000
/-! Rules of the data layer: steps in a row. -/
namespace Bx
open PySem L2

/-- what stands while others run -/
structure Held (R : Hp → Hp → Prop) (fv : Fp) (Hs H : Hp) : Prop where
  now : R Hs H
  stay : ∀ Hs' H', Same Hs Hs' → (∀ b, fv b ≠ 0 → H' b = H b ∧ Hs' b = none) → R Hs' H'
  live : ∀ b, fv b ≠ 0 → H b ≠ none
section
variable {G : Gc} {Hs H : Hp} {σ : L2.St} {fv : Fp}
theorem Held.tr : Held (fun _ _ => True) f0 Hs H := ⟨trivial, fun _ _ _ _ => trivial, fun _ h => absurd rfl h⟩
theorem Held.rp {v : V} {d : D} (r : Rp G Hs H v d fv) : Held (fun Hs H => Rp G Hs H v d fv) fv Hs H := ⟨r, fun _ _ s k => r.mono s k, fun b h => (r.live b h).1⟩
theorem Held.rps {v : List V} {d : List D} (r : Rps G Hs H v d fv) : Held (fun Hs H => Rps G Hs H v d fv) fv Hs H := ⟨r, fun _ _ s k => r.mono s k, fun b h => (r.live b h).1⟩
theorem Ra.mono {G : Gc} {Hs H Hs' H' : Hp} {σ : L2.St} (s : Same Hs Hs') : ∀ {vs : List V} {as : List AV} {f : Fp}, Ra G Hs H σ vs as f → (∀ b, f b ≠ 0 → H' b = H b ∧ Hs' b = none) → Ra G Hs' H' σ vs as f
  | _, _, _, .nil z, _ => .nil z
  | _, _, _, .d r rs e, k => .d (r.mono s fun b hb => k b (by rw [e b]; omega)) (Ra.mono s rs fun b hb => k b (by rw [e b]; omega)) e
  | _, _, _, .io h rs, k => .io h (Ra.mono s rs k)
theorem Ra.live {G : Gc} {Hs H : Hp} {σ : L2.St} : ∀ {vs : List V} {as : List AV} {f : Fp}, Ra G Hs H σ vs as f → ∀ b, f b ≠ 0 → H b ≠ none ∧ Hs b = none
  | _, _, _, .nil z, b, hb => absurd (z b) hb
  | _, _, _, .d (f := f1) r rs e, b, hb => by
    by_cases h1 : f1 b = 0
    · exact Ra.live rs b (by rw [e b, h1] at hb; simpa using hb)
    · exact r.live b h1
  | _, _, _, .io _ rs, b, hb => Ra.live rs b hb
theorem Held.ra {v : List V} {d : List AV} (r : Ra G Hs H σ v d fv) : Held (fun Hs H => Ra G Hs H σ v d fv) fv Hs H := ⟨r, fun _ _ s k => r.mono s k, fun b h => (r.live b h).1⟩
end

section
variable {C : Cc} {W : WX} {Hs H Hs' H' : Hp} {σ : L2.St} {e : En} {fe fx fv : Fp} {P : Addr → Prop}
theorem Ok.holdR {R : Hp → Hp → Prop} (o : Ok C Hs H σ e fe fv P) (r : Held R fv Hs H) : Ok C Hs H σ e fe f0 (fun b => P b ∨ fv b ≠ 0) :=
  ⟨⟨o.wf.sm, fun b => by have := o.wf.one b; simp only [f0] at *; omega, fun b hb => o.wf.own b (by simp only [f0] at *; omega), fun b hb => by
      rcases hb with hb | hb
      · have := o.wf.apart b hb; simp only [f0] at *; omega
      · have := o.wf.one b; simp only [f0] at *; omega, fun b hb => by
      rcases hb with hb | hb
      · exact o.wf.live b hb
      · exact r.live b hb⟩, o.sl, o.pn, o.ex⟩
theorem Held.on {R : Hp → Hp → Prop} (r : Held R fv Hs H) (o : Ok C Hs H σ e fe fv P) {Q : Addr → Prop} (a : Aft Hs H Hs' H' (fun b => Q b ∨ fv b ≠ 0)) : R Hs' H' := by
  exact r.stay Hs' H' a.sh fun b hb => a.keep b (.inr hb) (o.wf.own b (by omega))

theorem XcK.shift {x : Exc} {e' : En} (h : XcK C W Hs H P σ x e') (a : Aft Hs H Hs' H' P) : XcK C W Hs' H' P σ x e' :=
  fun dd H2s H2 fe' b ok ex => h dd H2s H2 fe' (a.trans b) ok ex
theorem XcK.unhold {x : Exc} {e' : En} (h : XcK C W Hs H P σ x e') {Q : Addr → Prop} (q : ∀ b, P b → Q b) : XcK C W Hs H Q σ x e' :=
  fun dd H2s H2 fe' b ok ex => h dd H2s H2 fe' (b.weak q) ⟨⟨ok.wf.sm, ok.wf.one, ok.wf.own, fun b hb => ok.wf.apart b (q b hb), fun b hb => ok.wf.live b (q b hb)⟩, ok.sl, ok.pn, ok.ex⟩ ex
theorem EndE.shift {r : Rs D} {Q : VK} (h : EndE C W r Hs H P σ Q) (a : Aft Hs H Hs' H' P) : EndE C W r Hs' H' P σ Q := by
  cases r with
  | bad => exact h
  | ok d e' => exact fun v H2s H2 fe' fv b ok r => h v H2s H2 fe' fv (a.trans b) ok r
  | exc x e' => exact XcK.shift h a
theorem EndT.shift {r : Rs Bool} {Q : Bool → Hp → Prop} (h : EndT C W r Hs H P σ Q) (a : Aft Hs H Hs' H' P) : EndT C W r Hs' H' P σ Q := by
  cases r with
  | bad => exact h
  | ok d e' => exact fun H2s H2 fe' b ok => h H2s H2 fe' (a.trans b) ok
  | exc x e' => exact XcK.shift h a
theorem EndA.shift {r : Rs (List AV)} {Q : List V → Hp → Prop} (h : EndA C W r Hs H P σ Q) (a : Aft Hs H Hs' H' P) : EndA C W r Hs' H' P σ Q := by
  cases r with
  | bad => exact h
  | ok d e' => exact fun v H2s H2 fe' fv b ok r => h v H2s H2 fe' fv (a.trans b) ok r
  | exc x e' => exact XcK.shift h a
theorem EndS.shift {r : So} {N : Ends} (h : EndS C W r Hs H P N) (a : Aft Hs H Hs' H' P) : EndS C W r Hs' H' P N := by
  cases r with
  | bad => exact h
  | nx e' => exact fun s H2s H2 fe' b ok => h s H2s H2 fe' (a.trans b) ok
  | bk e' => exact fun s H2s H2 fe' b ok => h s H2s H2 fe' (a.trans b) ok
  | ct e' => exact fun s H2s H2 fe' b ok => h s H2s H2 fe' (a.trans b) ok
  | rt d e' => exact fun v s H2s H2 fe' fv b ok r => h v s H2s H2 fe' fv (a.trans b) ok r
  | exc x e' => exact fun dd s H2s H2 fe' b ok ex => h dd s H2s H2 fe' (a.trans b) ok ex

/-- an answer that goes on to Z -/
def EndZ {α : Type} (C : Cc) (W : WX) (r : Rs α) (Hs H : Hp) (P : Addr → Prop) (σ : L2.St) (Z : α → En → Prop) : Prop := match r with
  | .bad => False
  | .ok d e' => Z d e'
  | .exc x e' => XcK C W Hs H P σ x e'
theorem EndE.bind {α : Type} {r : Rs α} {k : α → En → Rs D} {Q : VK} (h : EndE C W (r.bind k) Hs H P σ Q) : EndZ C W r Hs H P σ fun d e' => EndE C W (k d e') Hs H P σ Q := by
  cases r <;> exact h
theorem EndT.bind {α : Type} {r : Rs α} {k : α → En → Rs Bool} {Q : Bool → Hp → Prop} (h : EndT C W (r.bind k) Hs H P σ Q) : EndZ C W r Hs H P σ fun d e' => EndT C W (k d e') Hs H P σ Q := by
  cases r <;> exact h
theorem EndA.bind {α : Type} {r : Rs α} {k : α → En → Rs (List AV)} {Q : List V → Hp → Prop} (h : EndA C W (r.bind k) Hs H P σ Q) : EndZ C W r Hs H P σ fun d e' => EndA C W (k d e') Hs H P σ Q := by
  cases r <;> exact h
def Rs.toS {α : Type} (r : Rs α) (k : α → En → So) : So := match r with
  | .bad => .bad
  | .ok a e => k a e
  | .exc x e => .exc x e
theorem EndS.bind {α : Type} {r : Rs α} {k : α → En → So} {N : Ends} (h : EndS C W (r.toS k) Hs H P N) (σ : L2.St) : EndZ C W r Hs H P σ fun d e' => EndS C W (k d e') Hs H P N := by
  cases r with
  | bad => exact h
  | ok d e' => exact h
  | exc x e' => exact fun dd H2s H2 fe' b ok ex => h dd σ H2s H2 fe' b ok ex

/-- the next expression, R held -/
theorem bindE {R : Hp → Hp → Prop} {b : FE} {Z : D → En → Prop} {T : VK} (ok : Ok C Hs H σ e fe fv P) (hR : Held R fv Hs H) (h : EndZ C W (b e) Hs H P σ Z)
    (hk : ∀ d2 e2 v2 Hs2 H2 fe2 fv2, Aft Hs H Hs2 H2 (fun b => P b ∨ fv b ≠ 0) → Ok C Hs2 H2 σ e2 fe2 (fun b => fv b + fv2 b) P → R Hs2 H2 → Rp C.toGc Hs2 H2 v2 d2 fv2 → Z d2 e2 → T v2 H2) : canE C W b σ H T := by
  refine ⟨e, Hs, fe, _, ok.holdR hR, ?_⟩
  unfold EndZ at h
  unfold EndE
  generalize b e = re at h ⊢
  cases re with
  | bad => exact h
  | exc x e' => exact XcK.unhold h fun b hb => .inl hb
  | ok d e' =>
    intro v2 Hs2 H2 fe2 fv2 a ok2 r2
    exact hk d e' v2 Hs2 H2 fe2 fv2 a (ok2.back (fun b => by have := ok.wf.one b; omega) (fun b hb => by have := ok.wf.apart b hb; omega) (fun b hb => ok.wf.own b (by omega)) a) (hR.on ok a) r2 h
theorem bindT {R : Hp → Hp → Prop} {b : FT} {Z : Bool → En → Prop} {T : Bool → Hp → Prop} (ok : Ok C Hs H σ e fe fv P) (hR : Held R fv Hs H) (h : EndZ C W (b e) Hs H P σ Z)
    (hk : ∀ d2 e2 Hs2 H2 fe2, Aft Hs H Hs2 H2 (fun b => P b ∨ fv b ≠ 0) → Ok C Hs2 H2 σ e2 fe2 fv P → R Hs2 H2 → Z d2 e2 → T d2 H2) : canT C W b σ H T := by
  refine ⟨e, Hs, fe, _, ok.holdR hR, ?_⟩
  unfold EndZ at h
  unfold EndT
  generalize b e = re at h ⊢
  cases re with
  | bad => exact h
  | exc x e' => exact XcK.unhold h fun b hb => .inl hb
  | ok d e' =>
    intro Hs2 H2 fe2 a ok2
    exact hk d e' Hs2 H2 fe2 a ((ok2.back (fun b => by have := ok.wf.one b; omega) (fun b hb => by have := ok.wf.apart b hb; omega) (fun b hb => ok.wf.own b (by omega)) a).fps (fun _ => rfl) fun b => rfl) (hR.on ok a) h
theorem bindA {R : Hp → Hp → Prop} {b : FA} {Z : List AV → En → Prop} {T : List V → Hp → Prop} (ok : Ok C Hs H σ e fe fv P) (hR : Held R fv Hs H) (h : EndZ C W (b e) Hs H P σ Z)
    (hk : ∀ d2 e2 v2 Hs2 H2 fe2 fv2, Aft Hs H Hs2 H2 (fun b => P b ∨ fv b ≠ 0) → Ok C Hs2 H2 σ e2 fe2 (fun b => fv b + fv2 b) P → R Hs2 H2 → Ra C.toGc Hs2 H2 σ v2 d2 fv2 → Z d2 e2 → T v2 H2) : canA C W b σ H T := by
  refine ⟨e, Hs, fe, _, ok.holdR hR, ?_⟩
  unfold EndZ at h
  unfold EndA
  generalize b e = re at h ⊢
  cases re with
  | bad => exact h
  | exc x e' => exact XcK.unhold h fun b hb => .inl hb
  | ok d e' =>
    intro v2 Hs2 H2 fe2 fv2 a ok2 r2
    exact hk d e' v2 Hs2 H2 fe2 fv2 a (ok2.back (fun b => by have := ok.wf.one b; omega) (fun b hb => by have := ok.wf.apart b hb; omega) (fun b hb => ok.wf.own b (by omega)) a) (hR.on ok a) r2 h
/-- the first one: nothing is held -/
theorem firstE {b : FE} {Z : D → En → Prop} {T : VK} (ok : Ok C Hs H σ e fe f0 P) (h : EndZ C W (b e) Hs H P σ Z)
    (hk : ∀ d2 e2 v2 Hs2 H2 fe2 fv2, Aft Hs H Hs2 H2 P → Ok C Hs2 H2 σ e2 fe2 fv2 P → Rp C.toGc Hs2 H2 v2 d2 fv2 → Z d2 e2 → T v2 H2) : canE C W b σ H T :=
  bindE ok Held.tr h fun d2 e2 v2 Hs2 H2 fe2 fv2 a ok2 _ r2 z => hk d2 e2 v2 Hs2 H2 fe2 fv2 (a.weak fun b hb => .inl hb) (ok2.fps (fun _ => rfl) fun b => (Nat.zero_add _).symm) r2 z
theorem firstT {b : FT} {Z : Bool → En → Prop} {T : Bool → Hp → Prop} (ok : Ok C Hs H σ e fe f0 P) (h : EndZ C W (b e) Hs H P σ Z)
    (hk : ∀ d2 e2 Hs2 H2 fe2, Aft Hs H Hs2 H2 P → Ok C Hs2 H2 σ e2 fe2 f0 P → Z d2 e2 → T d2 H2) : canT C W b σ H T :=
  bindT ok Held.tr h fun d2 e2 Hs2 H2 fe2 a ok2 _ z => hk d2 e2 Hs2 H2 fe2 (a.weak fun b hb => .inl hb) ok2 z
theorem firstA {b : FA} {Z : List AV → En → Prop} {T : List V → Hp → Prop} (ok : Ok C Hs H σ e fe f0 P) (h : EndZ C W (b e) Hs H P σ Z)
    (hk : ∀ d2 e2 v2 Hs2 H2 fe2 fv2, Aft Hs H Hs2 H2 P → Ok C Hs2 H2 σ e2 fe2 fv2 P → Ra C.toGc Hs2 H2 σ v2 d2 fv2 → Z d2 e2 → T v2 H2) : canA C W b σ H T :=
  bindA ok Held.tr h fun d2 e2 v2 Hs2 H2 fe2 fv2 a ok2 _ r2 z => hk d2 e2 v2 Hs2 H2 fe2 fv2 (a.weak fun b hb => .inl hb) (ok2.fps (fun _ => rfl) fun b => (Nat.zero_add _).symm) r2 z

/-! ### new things -/
structure New (Hs H Hs' H' : Hp) (fv : Fp) : Prop where
  sh : Same Hs Hs'
  keep : ∀ b, H b ≠ none → H' b = H b ∧ Hs' b = Hs b
  mono : ∀ b, H' b = none → H b = none
  sm : Sm Hs' H'
  one : ∀ b, fv b ≤ 1
  own : ∀ b, fv b ≠ 0 → H b = none ∧ Hs' b = none
theorem New.refl (s : Sm Hs H) : New Hs H Hs H f0 := ⟨Same.refl _, fun _ _ => ⟨rfl, rfl⟩, fun _ h => h, s, fun _ => Nat.zero_le _, fun _ h => absurd rfl h⟩
theorem Ok.new (o : Ok C Hs H σ e fe fx P) (n : New Hs H Hs' H' fv) (hx : ∀ b, fx b ≠ 0 → H b ≠ none) : Ok C Hs' H' σ e fe (fun b => fx b + fv b) P := by
  have lv : ∀ b, fe b + fx b ≠ 0 → H b ≠ none := fun b hb => by
    by_cases z : fe b = 0
    · exact hx b (by omega)
    · exact (o.sl.live b z).1
  refine ⟨⟨n.sm, fun b => ?_, fun b hb => ?_, fun b hb => ?_, fun b hb z => o.wf.live b hb (n.mono b z)⟩, o.sl.mono n.sh fun b hb => ⟨(n.keep b (o.sl.live b hb).1).1, ?_⟩, o.pn, o.ex.mono n.sh⟩
  · have := o.wf.one b; have := n.one b
    by_cases z : fv b = 0
    · omega
    · have h1 := (n.own b z).1
      by_cases z2 : fe b + fx b = 0
      · omega
      · exact absurd h1 (lv b z2)
  · by_cases z2 : fe b + fx b = 0
    · exact (n.own b (by omega)).2
    · rw [(n.keep b (lv b z2)).2]; exact o.wf.own b z2
  · have h1 := o.wf.apart b hb
    by_cases z : fv b = 0
    · omega
    · exact absurd (n.own b z).1 (o.wf.live b hb)
  · rw [(n.keep b (o.sl.live b hb).1).2]; exact (o.sl.live b hb).2
theorem New.aft (o : Ok C Hs H σ e fe fx P) (n : New Hs H Hs' H' fv) : Aft Hs H Hs' H' P := ⟨n.sh, fun b hb hn => have z := n.keep b (o.wf.live b hb); ⟨z.1, z.2.trans hn⟩, n.mono, fun b od u hb => (n.keep b (by rw [hb]; intro z; cases z)).1.trans hb⟩
/-- a new object that is owned -/
theorem New.obj {p : Addr} {o : HO} (s : Sm Hs H) (hp : H p = none) : New Hs H Hs (upd H p o) (fun b => if b = p then 1 else 0) := by
  refine ⟨Same.refl _, fun b hb => ⟨upd_ne fun z => hb (z ▸ hp), rfl⟩, fun b hb => ?_, fun a u ha => ?_, fun b => by split <;> omega, fun b hb => ?_⟩
  · by_cases z : b = p
    · rw [z]; exact hp
    · rw [upd_ne z] at hb; exact hb
  · have z : a ≠ p := fun z => by
      have := s.live (z ▸ hp)
      rw [ha] at this; cases this
    rw [upd_ne z]; exact s a u ha
  · have z : b = p := by
      by_cases z : b = p
      · exact z
      · rw [if_neg z] at hb; exact absurd rfl hb
    rw [z]; exact ⟨hp, s.live hp⟩
/-- a new object that is frozen at once -/
theorem New.mkS {p : Addr} {o : HO} (s : Sm Hs H) (hp : H p = none) : New Hs H (upd Hs p o) (upd H p o) f0 := by
  have hs := s.live hp
  refine ⟨fun a u ha => ?_, fun b hb => ?_, fun b hb => ?_, fun a u ha => ?_, fun b => Nat.zero_le _, fun b hb => absurd rfl hb⟩
  · rw [upd_ne fun z => by rw [z, hs] at ha; cases ha]; exact ha
  · have z : b ≠ p := fun z => hb (z ▸ hp)
    exact ⟨upd_ne z, upd_ne z⟩
  · by_cases z : b = p
    · rw [z]; exact hp
    · rw [upd_ne z] at hb; exact hb
  · by_cases z : a = p
    · rw [z, upd_same] at ha
      rw [z, upd_same]; exact .inl ha
    · rw [upd_ne z] at ha
      rw [upd_ne z]; exact s a u ha
end

/-! ### operations on values -/
/-- r serves the operation g on frozen data -/
def OpS (G : Gc) (r : R2) (g : D → D → Option D) : Prop := ∀ {Hs H : Hp} {v1 v2 : V} {d1 d2 z : D} {Q : VK}, Sm Hs H → Rp G Hs H v1 d1 f0 → Rp G Hs H v2 d2 f0 → g d1 d2 = some z →
  (∀ v Hs' H' fv, New Hs H Hs' H' fv → Rp G Hs' H' v z fv → Q v H') → r v1 v2 H Q
def UnS (G : Gc) (r : V → Hp → VK → Prop) (g : D → Option D) : Prop := ∀ {Hs H : Hp} {v1 : V} {d1 z : D} {Q : VK}, Sm Hs H → Rp G Hs H v1 d1 f0 → g d1 = some z →
  (∀ v Hs' H' fv, New Hs H Hs' H' fv → Rp G Hs' H' v z fv → Q v H') → r v1 H Q
def CallS (G : Gc) (r : List V → Hp → VK → Prop) (g : List D → Option D) : Prop := ∀ {Hs H : Hp} {vs : List V} {ds : List D} {z : D} {Q : VK}, Sm Hs H → Rps G Hs H vs ds f0 → g ds = some z →
  (∀ v Hs' H' fv, New Hs H Hs' H' fv → Rp G Hs' H' v z fv → Q v H') → r vs H Q

def eC (d : D) : FE := fun e => .ok d e
def eN (i : Nat) : FE := fun e => match e.sl[i]? with
  | some (some d) => .ok (frz d) { e with sl := e.sl.set i (some (frz d)) }
  | _ => .bad
def eBin (g : D → D → Option D) (a b : FE) : FE := fun e => (a e).bind fun x e1 => (b e1).bind fun y e2 => .opt (g (frz x) (frz y)) e2
def eUn (g : D → Option D) (a : FE) : FE := fun e => (a e).bind fun x e1 => .opt (g (frz x)) e1
def tTst (a : FE) : FT := fun e => (a e).bind fun x e1 => match x with
  | .bl b => .ok b e1
  | _ => .bad
def tNt (a : FT) : FT := fun e => (a e).bind fun b e1 => .ok (!b) e1
def tAnd (a b : FT) : FT := fun e => (a e).bind fun k e1 => if k then b e1 else .ok false e1
def tOr (a b : FT) : FT := fun e => (a e).bind fun k e1 => if k then .ok true e1 else b e1
def eAnd (a b : FE) : FE := fun e => (a e).bind fun x e1 => match x with
  | .bl k => if k then b e1 else .ok (.bl false) e1
  | _ => .bad
def eOr (a b : FE) : FE := fun e => (a e).bind fun x e1 => match x with
  | .bl k => if k then .ok (.bl true) e1 else b e1
  | _ => .bad
def eNot (a : FE) : FE := fun e => (a e).bind fun x e1 => match x with
  | .bl k => .ok (.bl (!k)) e1
  | _ => .bad
def eIf (c : FT) (a b : FE) : FE := fun e => (c e).bind fun k e1 => if k then a e1 else b e1

section
variable {X : Cx} {C : Cc} {W : WX} {pos : Pos} {a b c : Expr} {Fa Fb Fc : FE} {Ta Tb Tc : FT}

/-- a value at hand is frozen -/
theorem Ok.frzX {Hs H : Hp} {σ : L2.St} {e : En} {fe fv fx : Fp} {P : Addr → Prop} {v : V} {d : D} (o : Ok C Hs H σ e fe (fun b => fv b + fx b) P) (r : Rp C.toGc Hs H v d fv)
    {R : Hp → Hp → Prop} (hR : Held R fx Hs H) : ∃ Hs', Aft Hs H Hs' H P ∧ Ok C Hs' H σ e fe fx P ∧ Rp C.toGc Hs' H v (frz d) f0 ∧ R Hs' H := by
  obtain ⟨Hs', a, ok, rp, he⟩ := o.freeze r
  refine ⟨Hs', a, ok, rp, hR.stay Hs' H a.sh fun b hb => ⟨rfl, ?_⟩⟩
  have := o.wf.one b
  rw [he b, if_neg (by omega)]
  exact o.wf.own b (by omega)
theorem be_c {d : D} {v : V} (h : PE X a (tC v)) (r : ∀ Hs H, Rp C.toGc Hs H v d f0) : BE X C W a (eC d) := h.imp fun σ H Q ⟨e, Hs, fe, P, ok, q⟩ =>
  q v Hs H fe f0 (Aft.refl _ _ _) ok (r Hs H)
theorem be_int {i j} : BE X C W (.Constant (.int i) j pos) (eC (.int i)) := be_c pe_int fun _ _ => .int fun _ => rfl
theorem be_bl {k j} : BE X C W (.Constant (.bool k) j pos) (eC (.bl k)) := be_c pe_bl fun _ _ => .bl fun _ => rfl
theorem be_non {j} : BE X C W (.Constant .none j pos) (eC .non) := be_c pe_non fun _ _ => .non fun _ => rfl
theorem be_str {x j} : BE X C W (.Constant (.str x) j pos) (eC (.str x)) := be_c pe_str fun _ _ => .str fun _ => rfl
theorem be_name {i : Nat} (h : PE X a (tVar i)) : BE X C W a (eN i) := h.imp fun σ H Q ⟨e, Hs, fe, P, ok, q⟩ => by
  unfold EndE eN at q
  cases h1 : e.sl[i]? with
  | none => rw [h1] at q; exact q.elim
  | some o =>
    cases o with
    | none => rw [h1] at q; exact q.elim
    | some d =>
      rw [h1] at q
      obtain ⟨v, f1, f2, e1, r1, e2, s2⟩ := ok.sl.get h1
      have ok1 : Ok C Hs H σ { e with sl := e.sl.set i none } f2 (fun b => f1 b + f0 b) P := ⟨⟨ok.wf.sm, fun b => by have := ok.wf.one b; have := e2 b; simp only [f0] at *; omega, fun b hb => ok.wf.own b (by have := e2 b; simp only [f0] at *; omega),
        fun b hb => by have := ok.wf.apart b hb; have := e2 b; simp only [f0] at *; omega, ok.wf.live⟩, s2, ok.pn, ok.ex⟩
      obtain ⟨Hs', a', ok2, r2, _⟩ := ok1.frzX r1 Held.tr
      have hi : i < e.sl.length := (List.getElem?_eq_some_iff.mp h1).1
      have s3 : Sls C.toGc Hs' H (σ.set i (some v)) ((e.sl.set i none).set i (some (frz d))) f2 := ok2.sl.put (g := f0) (by rw [List.getElem?_set_self hi]) r2 fun b => (Nat.zero_add _).symm
      rw [List.set_set] at s3
      have e4 : σ.set i (some v) = σ := by
        obtain ⟨hl, hv⟩ := List.getElem?_eq_some_iff.mp e1
        rw [← hv]; exact List.set_getElem_self hl
      rw [e4] at s3
      exact ⟨v, e1, q v Hs' H f2 f0 a' ⟨ok2.wf, s3, ok2.pn, ok2.ex⟩ r2⟩

theorem be_bin {op : Operator} {r : R2} {g : D → D → Option D} (ho : OpR X (binaryOp op) r) (hs : OpS C.toGc r g) (ha : BE X C W a Fa) (hb : BE X C W b Fb) : BE X C W (.BinOp a op b pos) (eBin g Fa Fb) :=
  (pe_op ho ha hb).imp fun σ H Q ⟨e, Hs, fe, P, ok, q⟩ => by
    refine firstE ok q.bind fun d1 e1 v1 Hs1 H1 fe1 fv1 a1 ok1 r1 q1 => ?_
    refine bindE ok1 (.rp r1) (q1.shift a1).bind fun d2 e2 v2 Hs2 H2 fe2 fv2 a2 ok2 r1 r2 q2 => ?_
    obtain ⟨Hs3, a3, ok3, r1', r2'⟩ := ok2.frzX r1 (.rp r2)
    obtain ⟨Hs4, a4, ok4, r2'', r1''⟩ := (ok3.fps (fun _ => rfl) (fx' := fun b => fv2 b + f0 b) fun _ => rfl).frzX r2' (.rp r1')
    have q3 := (q2.shift (a2.weak fun b hb => .inl hb)).shift (a3.trans a4)
    cases hz : g (frz d1) (frz d2) with
    | none => rw [hz] at q3; exact q3.elim
    | some z =>
      rw [hz] at q3
      exact hs ok4.sm r1'' r2'' hz fun v Hs5 H5 fv n rz => q3 v Hs5 H5 fe2 fv (n.aft ok4) ((ok4.new n fun _ h => absurd rfl h).fps (fun _ => rfl) fun _ => (Nat.zero_add _).symm) rz
theorem be_cmp {op : CmpOp} {r : R2} {g : D → D → Option D} (ho : OpR X (compareOp op) r) (hs : OpS C.toGc r g) (hm : behindInMarks op b = false) (ha : BE X C W a Fa) (hb : BE X C W b Fb) : BE X C W (.Compare a [op] [b] pos) (eBin g Fa Fb) :=
  (pe_cmpR ho ha hb hm).imp fun σ H Q ⟨e, Hs, fe, P, ok, q⟩ => by
    refine firstE ok q.bind fun d1 e1 v1 Hs1 H1 fe1 fv1 a1 ok1 r1 q1 => ?_
    refine bindE ok1 (.rp r1) (q1.shift a1).bind fun d2 e2 v2 Hs2 H2 fe2 fv2 a2 ok2 r1 r2 q2 => ?_
    obtain ⟨Hs3, a3, ok3, r1', r2'⟩ := ok2.frzX r1 (.rp r2)
    obtain ⟨Hs4, a4, ok4, r2'', r1''⟩ := (ok3.fps (fun _ => rfl) (fx' := fun b => fv2 b + f0 b) fun _ => rfl).frzX r2' (.rp r1')
    have q3 := (q2.shift (a2.weak fun b hb => .inl hb)).shift (a3.trans a4)
    cases hz : g (frz d1) (frz d2) with
    | none => rw [hz] at q3; exact q3.elim
    | some z =>
      rw [hz] at q3
      exact hs ok4.sm r1'' r2'' hz fun v Hs5 H5 fv n rz => q3 v Hs5 H5 fe2 fv (n.aft ok4) ((ok4.new n fun _ h => absurd rfl h).fps (fun _ => rfl) fun _ => (Nat.zero_add _).symm) rz
theorem be_un {op : UnaryOp} {r : V → Hp → VK → Prop} {g : D → Option D} (ho : UnR X (unaryOp op) r) (hs : UnS C.toGc r g) (ha : BE X C W a Fa) : BE X C W (.UnaryOp op a pos) (eUn g Fa) :=
  (pe_un ho ha).imp fun σ H Q ⟨e, Hs, fe, P, ok, q⟩ => by
    refine firstE ok q.bind fun d1 e1 v1 Hs1 H1 fe1 fv1 a1 ok1 r1 q1 => ?_
    obtain ⟨Hs3, a3, ok3, r1', _⟩ := (ok1.fps (fun _ => rfl) (fx' := fun b => fv1 b + f0 b) fun _ => rfl).frzX r1 Held.tr
    have q3 := (q1.shift a1).shift a3
    cases hz : g (frz d1) with
    | none => rw [hz] at q3; exact q3.elim
    | some z =>
      rw [hz] at q3
      exact hs ok3.sm r1' hz fun v Hs5 H5 fv n rz => q3 v Hs5 H5 fe1 fv (n.aft ok3) ((ok3.new n fun _ h => absurd rfl h).fps (fun _ => rfl) fun _ => (Nat.zero_add _).symm) rz
/-- a test by an expression that gives a bool -/
theorem Rp.isBl {G : Gc} {Hs H : Hp} {v : V} {k : Bool} {f : Fp} (r : Rp G Hs H v (.bl k) f) : v = .bl k ∧ ∀ b, f b = 0 := by
  cases r with | bl z => exact ⟨rfl, z⟩
theorem bt_of {Z : TT} (hz : PT X a Z) (hi : ∀ σ H Q, (canE C W Fa σ H fun x H1 => ∃ k, x = .bl k ∧ Q k H1) → Z σ H Q) : BT X C W a (tTst Fa) := hz.imp fun σ H Q ⟨e, Hs, fe, P, ok, q⟩ => by
  refine hi σ H Q (firstE ok q.bind fun d1 e1 v1 Hs1 H1 fe1 fv1 a1 ok1 r1 q1 => ?_)
  cases d1 with
  | bl k =>
    obtain ⟨rfl, z⟩ := r1.isBl
    exact ⟨k, rfl, q1 Hs1 H1 fe1 a1 (ok1.fps (fun _ => rfl) fun b => (z b).symm)⟩
  | _ => exact q1.elim
theorem bt_cmp {op : CmpOp} {r : R2} {g : D → D → Option D} (ho : OpR X (compareOp op) r) (hs : OpS C.toGc r g) (hm : behindInMarks op b = false) (ha : BE X C W a Fa) (hb : BE X C W b Fb) : BT X C W (.Compare a [op] [b] pos) (tTst (eBin g Fa Fb)) := by
  refine bt_of (pt_cmpR ho ha hb hm) fun σ H Q h => ?_
  obtain ⟨e, Hs, fe, P, ok, q⟩ := h
  refine firstE ok q.bind fun d1 e1 v1 Hs1 H1 fe1 fv1 a1 ok1 r1 q1 => ?_
  refine bindE ok1 (.rp r1) (q1.shift a1).bind fun d2 e2 v2 Hs2 H2 fe2 fv2 a2 ok2 r1 r2 q2 => ?_
  obtain ⟨Hs3, a3, ok3, r1', r2'⟩ := ok2.frzX r1 (.rp r2)
  obtain ⟨Hs4, a4, ok4, r2'', r1''⟩ := (ok3.fps (fun _ => rfl) (fx' := fun b => fv2 b + f0 b) fun _ => rfl).frzX r2' (.rp r1')
  have q3 := (q2.shift (a2.weak fun b hb => .inl hb)).shift (a3.trans a4)
  cases hz : g (frz d1) (frz d2) with
  | none => rw [hz] at q3; exact q3.elim
  | some z =>
    rw [hz] at q3
    exact hs ok4.sm r1'' r2'' hz fun v Hs5 H5 fv n rz => q3 v Hs5 H5 fe2 fv (n.aft ok4) ((ok4.new n fun _ h => absurd rfl h).fps (fun _ => rfl) fun _ => (Nat.zero_add _).symm) rz
theorem bt_val (h : BE X C W a Fa) (he : ∀ whole, isTrue a X.env whole = (do let v ← whole; standAt a.pos; holding [v] (truthy v))) : BT X C W a (tTst Fa) :=
  bt_of (pt_val h he) fun σ H Q h => h
theorem bt_not (ha : BT X C W a Ta) : BT X C W (.UnaryOp .Not a pos) (tNt Ta) := (pt_not ha).imp fun σ H Q ⟨e, Hs, fe, P, ok, q⟩ => by
  refine firstT ok q.bind fun d1 e1 Hs1 H1 fe1 a1 ok1 q1 => ?_
  exact q1 Hs1 H1 fe1 a1 ok1
def BW (X : Cx) (C : Cc) (W : WX) (e : Expr) (F : FT) : Prop := PW X e (canT C W F)
theorem bt_w (h : BW X C W a Ta) : BT X C W a Ta := L2.PW.pt h
theorem bw_and1 (ha : BT X C W a Ta) : BW X C W (.BoolOp .And [a] pos) Ta := pw_and1 ha
theorem bw_or1 (ha : BT X C W a Ta) : BW X C W (.BoolOp .Or [a] pos) Ta := pw_or1 ha
theorem bw_and {rest : List Expr} (ha : BT X C W a Ta) (hb : BW X C W (.BoolOp .And (b :: rest) pos) Tb) : BW X C W (.BoolOp .And (a :: b :: rest) pos) (tAnd Ta Tb) := (pw_and ha hb).imp fun σ H Q ⟨e, Hs, fe, P, ok, q⟩ => by
  refine firstT ok q.bind fun d1 e1 Hs1 H1 fe1 a1 ok1 q1 => ?_
  cases d1 with
  | true => exact iteT ⟨e1, Hs1, fe1, P, ok1, q1.shift a1⟩
  | false => exact iteF (q1 Hs1 H1 fe1 a1 ok1)
theorem bw_or {rest : List Expr} (ha : BT X C W a Ta) (hb : BW X C W (.BoolOp .Or (b :: rest) pos) Tb) : BW X C W (.BoolOp .Or (a :: b :: rest) pos) (tOr Ta Tb) := (pw_or ha hb).imp fun σ H Q ⟨e, Hs, fe, P, ok, q⟩ => by
  refine firstT ok q.bind fun d1 e1 Hs1 H1 fe1 a1 ok1 q1 => ?_
  cases d1 with
  | false => exact iteF ⟨e1, Hs1, fe1, P, ok1, q1.shift a1⟩
  | true => exact iteT (q1 Hs1 H1 fe1 a1 ok1)
theorem be_one {op} (h : BE X C W a Fa) : BE X C W (.BoolOp op [a] pos) Fa := pe_one h
theorem be_and {rest : List Expr} (ha : BE X C W a Fa) (hb : BE X C W (.BoolOp .And (b :: rest) pos) Fb) : BE X C W (.BoolOp .And (a :: b :: rest) pos) (eAnd Fa Fb) := (pe_and ha hb).imp fun σ H Q ⟨e, Hs, fe, P, ok, q⟩ => by
  refine firstE ok q.bind fun d1 e1 v1 Hs1 H1 fe1 fv1 a1 ok1 r1 q1 => ?_
  cases d1 with
  | bl k =>
    obtain ⟨rfl, z⟩ := r1.isBl
    have ok2 := ok1.fps (fe' := fe1) (fx' := f0) (fun _ => rfl) fun b => (z b).symm
    refine ⟨k, rfl, ?_⟩
    cases k with
    | true => exact iteT ⟨e1, Hs1, fe1, P, ok2, q1.shift a1⟩
    | false => exact iteF (q1 _ Hs1 H1 fe1 f0 a1 ok2 (.bl fun _ => rfl))
  | _ => exact q1.elim
theorem be_or {rest : List Expr} (ha : BE X C W a Fa) (hb : BE X C W (.BoolOp .Or (b :: rest) pos) Fb) : BE X C W (.BoolOp .Or (a :: b :: rest) pos) (eOr Fa Fb) := (pe_or ha hb).imp fun σ H Q ⟨e, Hs, fe, P, ok, q⟩ => by
  refine firstE ok q.bind fun d1 e1 v1 Hs1 H1 fe1 fv1 a1 ok1 r1 q1 => ?_
  cases d1 with
  | bl k =>
    obtain ⟨rfl, z⟩ := r1.isBl
    have ok2 := ok1.fps (fe' := fe1) (fx' := f0) (fun _ => rfl) fun b => (z b).symm
    refine ⟨k, rfl, ?_⟩
    cases k with
    | false => exact iteF ⟨e1, Hs1, fe1, P, ok2, q1.shift a1⟩
    | true => exact iteT (q1 _ Hs1 H1 fe1 f0 a1 ok2 (.bl fun _ => rfl))
  | _ => exact q1.elim
theorem be_not (ha : BE X C W a Fa) : BE X C W (.UnaryOp .Not a pos) (eNot Fa) := (pe_not ha).imp fun σ H Q ⟨e, Hs, fe, P, ok, q⟩ => by
  refine firstE ok q.bind fun d1 e1 v1 Hs1 H1 fe1 fv1 a1 ok1 r1 q1 => ?_
  cases d1 with
  | bl k =>
    obtain ⟨rfl, z⟩ := r1.isBl
    have ok2 := ok1.fps (fe' := fe1) (fx' := f0) (fun _ => rfl) fun b => (z b).symm
    exact ⟨k, rfl, q1 _ Hs1 H1 fe1 f0 a1 ok2 (.bl fun _ => rfl)⟩
  | _ => exact q1.elim
theorem be_if (hc : BT X C W c Tc) (ha : BE X C W a Fa) (hb : BE X C W b Fb) : BE X C W (.IfExp c a b pos) (eIf Tc Fa Fb) := (pe_ifExp hc ha hb).imp fun σ H Q ⟨e, Hs, fe, P, ok, q⟩ => by
  refine firstT ok q.bind fun d1 e1 Hs1 H1 fe1 a1 ok1 q1 => ?_
  cases d1 with
  | true => exact iteT ⟨e1, Hs1, fe1, P, ok1, q1.shift a1⟩
  | false => exact iteF ⟨e1, Hs1, fe1, P, ok1, q1.shift a1⟩
end
end Bx

set_option Elab.async false
set_option linter.all false
set_option maxRecDepth 100000
set_option maxHeartbeats 1000000
/-! Operations on data. -/
namespace Bx
open PySem L2

/-- a list's or a tuple's items -/
def D.seq : D → Option (Bool × List D)
  | .nd .lst _ xs => some (true, xs)
  | .nd .wl _ xs => some (true, xs)
  | .nd .tup _ xs => some (false, xs)
  | .nd .wt _ xs => some (false, xs)
  | _ => none
def lim : Nat := 16000000
theorem lim_le {n : Nat} (h : n ≤ lim) : n ≤ sizeLine := Nat.le_trans h (by rw [sizeLine_eq]; decide)
theorem lim_lt {n : Nat} (h : n ≤ lim) : n < sizeLine := Nat.lt_of_le_of_lt h (by rw [sizeLine_eq]; decide)
section
variable {G : Gc} {Hs H : Hp} {v : V} {d : D} {f : Fp}
theorem sm_lst {a : Addr} {vs : List V} (s : Sm Hs H) (h : Hs a = some (.lst vs)) : H a = some (.lst vs) := by
  rcases s _ _ h with h | ⟨z, _⟩
  · exact h
  · exact z.elim
theorem sm_tup {a : Addr} {vs : List V} (s : Sm Hs H) (h : Hs a = some (.tup vs)) : H a = some (.tup vs) := by
  rcases s _ _ h with h | ⟨z, _⟩
  · exact h
  · exact z.elim
theorem sm_ins {a C dx : Addr} {fs : List (Str × V)} (s : Sm Hs H) (h : Hs a = some (.ins C dx fs)) : H a = some (.ins C dx fs) := by
  rcases s _ _ h with h | ⟨z, _⟩
  · exact h
  · exact z.elim
/-- how a node stands in the heap itself -/
def AtR (G : Gc) (Hs H : Hp) (a : Addr) (k : Kd) (vs : List V) (o : Bool) : Prop := At G H a k vs ∨ (At G Hs a k vs ∧ Hs a ≠ none ∧ o = false) ∨ (k.ow = false ∧ At G H a k vs)
theorem AtR.sh {a : Addr} {k : Kd} {vs : List V} (s : Sm Hs H) (h : At G Hs a k vs) : AtR G Hs H a k vs false := by
  cases k with
  | lst => exact .inl (sm_lst s h)
  | tup => exact .inl (sm_tup s h)
  | wl => exact .inl (s.sqL h)
  | wt => exact .inl (s.sqT h)
  | dk ks => exact .inr (.inl ⟨h, (fun z => by rw [h.2] at z; cases z), rfl⟩)
  | dt ks => exact .inr (.inl ⟨h, (fun z => by rw [h.2] at z; cases z), rfl⟩)
  | dn ks => exact .inr (.inl ⟨h, (fun z => by obtain ⟨_, _, h2⟩ := h; rw [h2] at z; cases z), rfl⟩)
  | st ks => exact .inr (.inl ⟨h, (fun z => by obtain ⟨_, _, h2⟩ := h; rw [h2] at z; cases z), rfl⟩)
  | ins c fn => obtain ⟨h1, dx, h2⟩ := h; exact .inl ⟨h1, dx, sm_ins s h2⟩
theorem Rp.nd {k : Kd} {o : Bool} {xs : List D} (s : Sm Hs H) (r : Rp G Hs H v (.nd k o xs) f) :
    ∃ a vs g, v = .ref a ∧ Rps G Hs H vs xs g ∧ (∀ b, g b ≤ f b) ∧ AtR G Hs H a k vs o := by
  cases r with
  | @sh a _ vs _ _ h r z => exact ⟨a, vs, f, rfl, r, fun b => Nat.le_refl _, .sh s h⟩
  | @own a _ vs _ g _ h w n r e => exact ⟨a, vs, g, rfl, r, fun b => by rw [e b]; omega, .inl h⟩
theorem Rp.seq {b : Bool} {xs : List D} (s : Sm Hs H) (r : Rp G Hs H v d f) (h : d.seq = some (b, xs)) :
    ∃ a vs g, v = .ref a ∧ (b = true → SqL G.K H a vs) ∧ (b = false → SqT G.K H a vs) ∧ Rps G Hs H vs xs g ∧ ∀ b, g b ≤ f b := by
  cases d with
  | nd k o ys =>
    obtain ⟨a, vs, g, e, rs, le, at_⟩ := r.nd s
    cases k with
    | lst =>
      cases h
      have hh : H a = some (.lst vs) := by
        rcases at_ with h | ⟨h, _⟩ | ⟨h, _⟩
        · exact h
        · exact sm_lst s h
        · cases h
      exact ⟨a, vs, g, e, fun _ => SqL.of hh, (fun z => nomatch z), rs, le⟩
    | wl =>
      cases h
      have hh : SqL G.K H a vs := by
        rcases at_ with h | ⟨h, _⟩ | ⟨_, h⟩
        · exact h
        · exact s.sqL h
        · exact h
      exact ⟨a, vs, g, e, fun _ => hh, (fun z => nomatch z), rs, le⟩
    | tup =>
      cases h
      have hh : H a = some (.tup vs) := by
        rcases at_ with h | ⟨h, _⟩ | ⟨h, _⟩
        · exact h
        · exact sm_tup s h
        · cases h
      exact ⟨a, vs, g, e, (fun z => nomatch z), fun _ => SqT.of hh, rs, le⟩
    | wt =>
      cases h
      have hh : SqT G.K H a vs := by
        rcases at_ with h | ⟨h, _⟩ | ⟨_, h⟩
        · exact h
        · exact s.sqT h
        · exact h
      exact ⟨a, vs, g, e, (fun z => nomatch z), fun _ => hh, rs, le⟩
    | _ => cases h
  | _ => cases h
theorem Rp.lst {o : Bool} {xs : List D} (s : Sm Hs H) (r : Rp G Hs H v (.nd .lst o xs) f) : ∃ a vs g, v = .ref a ∧ H a = some (.lst vs) ∧ Rps G Hs H vs xs g ∧ ∀ b, g b ≤ f b := by
  obtain ⟨a, vs, g, e, rs, le, at_⟩ := r.nd s
  refine ⟨a, vs, g, e, ?_, rs, le⟩
  rcases at_ with h | ⟨h, _⟩ | ⟨h, _⟩
  · exact h
  · exact sm_lst s h
  · cases h
theorem Rp.toI {i : Int} (r : Rp G Hs H v (.int i) f) : v = .int i := by cases r; rfl
theorem Rp.toS {x : Str} (r : Rp G Hs H v (.str x) f) : v = .str x := by cases r; rfl
theorem Rp.toB {k : Bool} (r : Rp G Hs H v (.bl k) f) : v = .bl k := by cases r; rfl
theorem Rp.toN (r : Rp G Hs H v .non f) : v = .non := by cases r; rfl
theorem Rp.toT {n : String} (r : Rp G Hs H v (.ty n) f) : v = .ty n := by cases r; rfl
/-- a scalar -/
def D.sc : D → Bool
  | .nd _ _ _ => false
  | _ => true
theorem Rp.f0 (r : Rp G Hs H v d f) (h : d.sc = true) : Rp G Hs H v d f0 := by
  cases r with
  | non z => exact .non fun _ => rfl
  | bl z => exact .bl fun _ => rfl
  | int z => exact .int fun _ => rfl
  | str z => exact .str fun _ => rfl
  | ty z => exact .ty fun _ => rfl
  | sh _ _ _ => cases h
  | own _ _ _ _ _ => cases h
theorem r_int (i : Int) : Rp G Hs H (.int i) (.int i) Bx.f0 := .int fun _ => rfl
theorem r_bl (i : Bool) : Rp G Hs H (.bl i) (.bl i) Bx.f0 := .bl fun _ => rfl
theorem r_str (i : Str) : Rp G Hs H (.str i) (.str i) Bx.f0 := .str fun _ => rfl
theorem r_non : Rp G Hs H .non .non Bx.f0 := .non fun _ => rfl
theorem Rps.at {vs : List V} {ds : List D} {i : Nat} {d : D} (r : Rps G Hs H vs ds Bx.f0) (h : ds[i]? = some d) : ∃ v, vs[i]? = some v ∧ Rp G Hs H v d Bx.f0 := by
  obtain ⟨v, f1, f2, h1, h2, h3, _⟩ := r.get h
  exact ⟨v, h1, h2.fp fun b => by have := h3 b; simp only [Bx.f0] at *; omega⟩
theorem Rps.z {vs : List V} {ds : List D} {g : Fp} (r : Rps G Hs H vs ds g) (h : ∀ b, g b ≤ Bx.f0 b) : Rps G Hs H vs ds Bx.f0 := r.fp fun b => by have := h b; simp only [Bx.f0] at *; omega
theorem Rps.ints : ∀ {vs : List V} {ns : List Int} {g : Fp}, Rps G Hs H vs (ns.map D.int) g → vs = ns.map V.int
  | _, [], _, .nil _ => rfl
  | _, n :: ns, _, .cons r rs _ => by rw [r.toI, Rps.ints rs]; rfl
theorem Rps.bls : ∀ {vs : List V} {ns : List Bool} {g : Fp}, Rps G Hs H vs (ns.map D.bl) g → vs = ns.map V.bl
  | _, [], _, .nil _ => rfl
  | _, n :: ns, _, .cons r rs _ => by rw [r.toB, Rps.bls rs]; rfl
theorem newLst {p : Addr} {vs : List V} {xs : List D} {g : Fp} (s : Sm Hs H) (hp : H p = none) (r : Rps G Hs H vs xs g) (hg : ∀ b, g b ≠ 0 → b ≠ p) : Rp G Hs (upd H p (.lst vs)) (.ref p) (.nd .lst true xs) (fun b => g b + if b = p then 1 else 0) :=
  .own upd_same rfl (s.live hp) (r.mono (Same.refl _) fun b hb => ⟨upd_ne (hg b hb), (r.live b hb).2⟩) fun b => rfl
theorem newTup {p : Addr} {vs : List V} {xs : List D} (s : Sm Hs H) (hp : H p = none) (r : Rps G Hs H vs xs Bx.f0) : Rp G (upd Hs p (.tup vs)) (upd H p (.tup vs)) (.ref p) (.nd .tup false xs) Bx.f0 :=
  .sh upd_same (r.mono (New.mkS (o := .tup vs) s hp).sh fun b hb => absurd rfl hb) fun _ => rfl
end

/-! ### two-place operations -/
def addD : D → D → Option D
  | .int i, .int j => some (.int (i + j))
  | .str x, .str y => if x.length + y.length ≤ lim then some (.str (x ++ y)) else none
  | .nd .lst _ xs, .nd .lst _ ys => if xs.length + ys.length ≤ lim then some (.nd .lst true (xs ++ ys)) else none
  | .nd .tup _ xs, .nd .tup _ ys => if xs.length + ys.length ≤ lim ∧ xs ≠ [] ∧ ys ≠ [] then some (.nd .tup false (xs ++ ys)) else none
  | _, _ => none
def subD : D → D → Option D
  | .int i, .int j => some (.int (i - j))
  | _, _ => none
def mulOk (i j : Int) : Bool := decide (i.natAbs.log2 + j.natAbs.log2 < 1000000)
def mulD : D → D → Option D
  | .int i, .int j => if mulOk i j then some (.int (i * j)) else none
  | _, _ => none
def divD : D → D → Option D
  | .int i, .int j => if decide (0 < j) && decide (j.natAbs.log2 < 9000) then some (.int (i / j)) else none
  | _, _ => none
def modD : D → D → Option D
  | .int i, .int j => if decide (0 < j) then some (.int (i % j)) else none
  | _, _ => none
def powD : D → D → Option D
  | .int i, .int j => if decide (0 ≤ j) && decide (j ≤ 1000000) && decide (i.natAbs < 2 ^ 64) then some (.int (i ^ j.toNat)) else none
  | _, _ => none
def negD : D → Option D
  | .int i => some (.int (-i))
  | _ => none
def ltD : D → D → Option D
  | .int i, .int j => some (.bl (decide (i < j)))
  | _, _ => none
def leD : D → D → Option D
  | .int i, .int j => some (.bl (decide (i ≤ j)))
  | _, _ => none
def gtD : D → D → Option D
  | .int i, .int j => some (.bl (decide (j < i)))
  | _, _ => none
def geD : D → D → Option D
  | .int i, .int j => some (.bl (decide (j ≤ i)))
  | _, _ => none
def isD : D → D → Option D
  | .non, .non => some (.bl true)
  | .nd _ _ _, .non => some (.bl false)
  | .int _, .non => some (.bl false)
  | .str _, .non => some (.bl false)
  | .bl _, .non => some (.bl false)
  | _, _ => none
def isntD (a b : D) : Option D := match isD a b with
  | some (.bl k) => some (.bl (!k))
  | _ => none
mutual
def pyd : D → PyData
  | .non => .none | .bl b => .bool b | .int i => .int i | .str x => .str x | .ty _ => .dict []
  | .nd k _ xs => match k with
    | .lst => .list (pyds xs) | .wl => .list (pyds xs) | .tup => .tuple (pyds xs) | .wt => .tuple (pyds xs) | _ => .dict []
def pyds : List D → List PyData
  | [] => []
  | x :: xs => pyd x :: pyds xs
end
mutual
/-- data that == may look through -/
def eqOk : D → Bool
  | .ty _ => false
  | .nd k _ xs => (match k with
    | .lst => true | .wl => true | .tup => true | .wt => true | _ => false) && eqOks xs
  | _ => true
def eqOks : List D → Bool
  | [] => true
  | x :: xs => eqOk x && eqOks xs
end
def eqD (a b : D) : Option D := if eqOk a && eqOk b && SeqAt.shaped (pyd a) && SeqAt.shaped (pyd b) then some (.bl (PyData.eqv (pyd a) (pyd b))) else none
def neD (a b : D) : Option D := if eqOk a && eqOk b && SeqAt.shaped (pyd a) && SeqAt.shaped (pyd b) then some (.bl (!PyData.eqv (pyd a) (pyd b))) else none
def flatD : D → Bool
  | .nd _ _ _ => false
  | .ty _ => false
  | _ => true
def eqF : D → D → Bool
  | .non, .non => true
  | .bl a, .bl b => a == b
  | .bl a, .int b => (if a then 1 else 0) == b
  | .int a, .bl b => a == (if b then 1 else 0)
  | .int a, .int b => a == b
  | .str a, .str b => a == b
  | _, _ => false
/-- x in xs, xs a list or tuple of flat things; a text in a text -/
def inD (a b : D) : Option D := match b with
  | .str y => match a with
    | .str x => some (.bl (!(Builtin.Str.occurrences y x 0 y.length 1).isEmpty))
    | _ => none
  | _ => match b.seq with
    | some (_, xs) => if flatD a && xs.all flatD then some (.bl (xs.any fun y => eqF y a)) else none
    | none => none
def notInD (a b : D) : Option D := match inD a b with
  | some (.bl k) => some (.bl (!k))
  | _ => none

theorem OpR.or {X : Cx} {f : Value → Value → Sem Value} {r r' : R2} (h : OpR X f r) (h' : OpR X f r') : OpR X f (fun x y H Q => r x y H Q ∨ r' x y H Q) :=
  fun pins s σ H x y v u Q I rx ry q => q.elim (h pins s σ H x y v u Q I rx ry) (h' pins s σ H x y v u Q I rx ry)
theorem OpS.l {G : Gc} {r r' : R2} {g : D → D → Option D} (h : OpS G r g) : OpS G (fun x y H Q => r x y H Q ∨ r' x y H Q) g := fun s r1 r2 hz q => .inl (h s r1 r2 hz q)
section
variable {G : Gc}
/-- a scalar answer, the heap as it was -/
theorem res0 {Hs H : Hp} {Q : VK} {z : D} {v : V} (s : Sm Hs H) (q : ∀ v Hs' H' fv, New Hs H Hs' H' fv → Rp G Hs' H' v z fv → Q v H') (r : Rp G Hs H v z f0) : Q v H := q v Hs H f0 (New.refl s) r
theorem resLst {Hs H : Hp} {Q : VK} {vs : List V} {xs : List D} {p : Addr} (s : Sm Hs H) (q : ∀ v Hs' H' fv, New Hs H Hs' H' fv → Rp G Hs' H' v (.nd .lst true xs) fv → Q v H') (r : Rps G Hs H vs xs f0) (hp : H p = none) : Q (.ref p) (upd H p (.lst vs)) :=
  q _ _ _ _ (New.obj s hp) ((newLst s hp r fun b hb => absurd rfl hb).fp fun b => (Nat.zero_add _).symm)
theorem resTup {Hs H : Hp} {Q : VK} {vs : List V} {xs : List D} {p : Addr} (s : Sm Hs H) (q : ∀ v Hs' H' fv, New Hs H Hs' H' fv → Rp G Hs' H' v (.nd .tup false xs) fv → Q v H') (r : Rps G Hs H vs xs f0) (hp : H p = none) : Q (.ref p) (upd H p (.tup vs)) :=
  q _ _ _ _ (New.mkS s hp) (newTup s hp r)

def rAddStr : R2 := fun x y H Q => ∃ i j, x = V.str i ∧ y = V.str j ∧ i.length + j.length ≤ sizeLine ∧ Q (V.str (i ++ j)) H
def rAddA (K : PySem.W.Frag) : R2 := fun x y H Q => rI0 (fun i j => .int (i + j)) x y H Q ∨ (rAddStr x y H Q ∨ (rCat x y H Q ∨ rCatT K x y H Q))
theorem op_addA {X : Cx} : OpR X (binaryOp .Add) (rAddA X.K) := op_add.or (OpR.or op_add_str (OpR.or op_cat op_catT))
theorem iop_addA {X : Cx} : OpR X (inplaceOp .Add) (rI0 fun i j => .int (i + j)) := iop_add
theorem addS : OpS G (rAddA G.K) addD := by
  intro Hs H v1 v2 d1 d2 z Q s r1 r2 hz q
  unfold addD at hz
  split at hz
  · cases hz
    rw [r1.toI, r2.toI]
    exact .inl ⟨_, _, rfl, rfl, res0 s q (r_int _)⟩
  · split at hz
    · cases hz
      rename_i h
      rw [r1.toS, r2.toS]
      exact .inr (.inl ⟨_, _, rfl, rfl, lim_le h, res0 s q (r_str _)⟩)
    · cases hz
  · split at hz
    · cases hz
      rename_i h
      obtain ⟨a, vs, g, rfl, ha, rs, le⟩ := r1.lst s
      obtain ⟨b, ws, g', rfl, hb, rs', le'⟩ := r2.lst s
      refine .inr (.inr (.inl ⟨a, b, vs, ws, rfl, rfl, ha, hb, by rw [rs.len, rs'.len]; exact lim_le h, fun p hp => resLst s q ((rs.z le).app (rs'.z le') fun _ => rfl) hp⟩))
    · cases hz
  · split at hz
    · cases hz
      rename_i h
      obtain ⟨a, vs, g, rfl, _, ha, rs, le⟩ := r1.seq s rfl
      obtain ⟨b, ws, g', rfl, _, hb, rs', le'⟩ := r2.seq s rfl
      refine .inr (.inr (.inr ⟨a, b, vs, ws, rfl, rfl, ha rfl, hb rfl, fun z => h.2.1 (List.eq_nil_of_length_eq_zero (by rw [← rs.len, z]; rfl)), by rw [rs.len, rs'.len]; exact lim_le h.1,
        fun z => absurd (List.eq_nil_of_length_eq_zero (by rw [← rs'.len, z]; rfl)) h.2.2, fun _ p hp => resTup s q ((rs.z le).app (rs'.z le') fun _ => rfl) hp⟩))
    · cases hz
  · cases hz
theorem subS : OpS G (rI0 fun i j => .int (i - j)) subD := by
  intro Hs H v1 v2 d1 d2 z Q s r1 r2 hz q
  unfold subD at hz
  split at hz
  · cases hz
    rw [r1.toI, r2.toI]
    exact ⟨_, _, rfl, rfl, res0 s q (r_int _)⟩
  · cases hz
theorem mulS : OpS G (rI CMulW fun i j => .int (i * j)) mulD := by
  intro Hs H v1 v2 d1 d2 z Q s r1 r2 hz q
  unfold mulD at hz
  split at hz
  · split at hz
    · cases hz
      rename_i h
      rw [r1.toI, r2.toI]
      exact ⟨_, _, rfl, rfl, of_decide_eq_true (p := _ < 1000000) h, res0 s q (r_int _)⟩
    · cases hz
  · cases hz
theorem divS : OpS G (rI CDivW fun i j => .int (i / j)) divD := by
  intro Hs H v1 v2 d1 d2 z Q s r1 r2 hz q
  unfold divD at hz
  split at hz
  · split at hz
    · cases hz
      rename_i h
      rw [r1.toI, r2.toI]
      rw [Bool.and_eq_true] at h
      exact ⟨_, _, rfl, rfl, ⟨of_decide_eq_true h.1, of_decide_eq_true h.2⟩, res0 s q (r_int _)⟩
    · cases hz
  · cases hz
theorem modS : OpS G (rI (fun _ j => 0 < j) fun i j => .int (i % j)) modD := by
  intro Hs H v1 v2 d1 d2 z Q s r1 r2 hz q
  unfold modD at hz
  split at hz
  · split at hz
    · cases hz
      rename_i h
      rw [r1.toI, r2.toI]
      exact ⟨_, _, rfl, rfl, of_decide_eq_true h, res0 s q (r_int _)⟩
    · cases hz
  · cases hz
theorem powS : OpS G (rI CPow fun i j => .int (i ^ j.toNat)) powD := by
  intro Hs H v1 v2 d1 d2 z Q s r1 r2 hz q
  unfold powD at hz
  split at hz
  · split at hz
    · cases hz
      rename_i h
      rw [r1.toI, r2.toI]
      rw [Bool.and_eq_true, Bool.and_eq_true] at h
      exact ⟨_, _, rfl, rfl, ⟨of_decide_eq_true h.1.1, of_decide_eq_true h.1.2, of_decide_eq_true h.2⟩, res0 s q (r_int _)⟩
    · cases hz
  · cases hz
theorem negS : UnS G (rU fun i => .int (-i)) negD := by
  intro Hs H v1 d1 z Q s r1 hz q
  unfold negD at hz
  split at hz
  · cases hz
    rw [r1.toI]
    exact ⟨_, rfl, res0 s q (r_int _)⟩
  · cases hz
theorem ltS : OpS G (rI0 fun i j => .bl (decide (i < j))) ltD := by
  intro Hs H v1 v2 d1 d2 z Q s r1 r2 hz q
  unfold ltD at hz
  split at hz
  · cases hz
    rw [r1.toI, r2.toI]
    exact ⟨_, _, rfl, rfl, res0 s q (r_bl _)⟩
  · cases hz
theorem leS : OpS G (rI0 fun i j => .bl (decide (i ≤ j))) leD := by
  intro Hs H v1 v2 d1 d2 z Q s r1 r2 hz q
  unfold leD at hz
  split at hz
  · cases hz
    rw [r1.toI, r2.toI]
    exact ⟨_, _, rfl, rfl, res0 s q (r_bl _)⟩
  · cases hz
theorem gtS : OpS G (rI0 fun i j => .bl (decide (j < i))) gtD := by
  intro Hs H v1 v2 d1 d2 z Q s r1 r2 hz q
  unfold gtD at hz
  split at hz
  · cases hz
    rw [r1.toI, r2.toI]
    exact ⟨_, _, rfl, rfl, res0 s q (r_bl _)⟩
  · cases hz
theorem geS : OpS G (rI0 fun i j => .bl (decide (j ≤ i))) geD := by
  intro Hs H v1 v2 d1 d2 z Q s r1 r2 hz q
  unfold geD at hz
  split at hz
  · cases hz
    rw [r1.toI, r2.toI]
    exact ⟨_, _, rfl, rfl, res0 s q (r_bl _)⟩
  · cases hz
def isNonD : D → Bool
  | .non => true
  | _ => false
theorem isD_non {a b : D} {z : D} (h : isD a b = some z) : b = .non ∧ z = .bl (isNonD a) := by
  unfold isD at h
  split at h <;> cases h <;> exact ⟨rfl, rfl⟩
theorem Rp.isNon {Hs H : Hp} {v : V} {a : D} {f : Fp} (r : Rp G Hs H v a f) : decide (v = .non) = isNonD a := by
  cases r <;> rfl
theorem isS : OpS G (fun x y H Q => y = V.non ∧ Q (V.bl (decide (x = V.non))) H) isD := by
  intro Hs H v1 v2 d1 d2 z Q s r1 r2 hz q
  obtain ⟨rfl, rfl⟩ := isD_non hz
  refine ⟨r2.toN, ?_⟩
  rw [r1.isNon]
  exact res0 s q (r_bl _)
theorem isntS : OpS G (fun x y H Q => y = V.non ∧ Q (V.bl (!decide (x = V.non))) H) isntD := by
  intro Hs H v1 v2 d1 d2 z Q s r1 r2 hz q
  unfold isntD at hz
  split at hz
  · rename_i k he
    cases hz
    obtain ⟨rfl, hk⟩ := isD_non he
    refine ⟨r2.toN, ?_⟩
    rw [r1.isNon, ← D.bl.inj hk]
    exact res0 s q (r_bl _)
  · cases hz
mutual
theorem Rp.dp {Hs H : Hp} (s : Sm Hs H) {v : V} {d : D} {f : Fp} : Rp G Hs H v d f → eqOk d = true → Dp G.K H v (pyd d)
  | .non _, _ => .non
  | .bl _, _ => .bl _
  | .int _, _ => .int _
  | .str _, _ => .str _
  | .ty _, h => by cases h
  | .sh (a := a) (k := k) (vs := vs) h r z, e => by
    unfold eqOk at e
    rw [Bool.and_eq_true] at e
    have rs := Rps.dp s r e.2
    cases k with
    | lst => exact .lst (SqL.of (sm_lst s h)) rs
    | wl => exact .lst (s.sqL h) rs
    | tup => exact .tup (SqT.of (sm_tup s h)) rs
    | wt => exact .tup (s.sqT h) rs
    | _ => cases e.1
  | .own (a := a) (k := k) (vs := vs) h w n r q, e => by
    unfold eqOk at e
    rw [Bool.and_eq_true] at e
    have rs := Rps.dp s r e.2
    cases k with
    | lst => exact .lst (SqL.of h) rs
    | wl => exact .lst h rs
    | tup => exact .tup (SqT.of h) rs
    | wt => exact .tup h rs
    | _ => cases e.1
theorem Rps.dp {Hs H : Hp} (s : Sm Hs H) {vs : List V} {ds : List D} {f : Fp} : Rps G Hs H vs ds f → eqOks ds = true → DpAll G.K H vs (pyds ds)
  | .nil _, _ => .nil
  | .cons r rs _, e => by
    unfold eqOks at e
    rw [Bool.and_eq_true] at e
    exact .cons (Rp.dp s r e.1) (Rps.dp s rs e.2)
end
theorem eqS : OpS G (rEqD G.K) eqD := by
  intro Hs H v1 v2 d1 d2 z Q s r1 r2 hz q
  unfold eqD at hz
  split at hz
  · rename_i h
    cases hz
    simp only [Bool.and_eq_true] at h
    exact ⟨_, _, r1.dp s h.1.1.1, r2.dp s h.1.1.2, h.1.2, h.2, res0 s q (r_bl _)⟩
  · cases hz
theorem neS : OpS G (rNeD G.K) neD := by
  intro Hs H v1 v2 d1 d2 z Q s r1 r2 hz q
  unfold neD at hz
  split at hz
  · rename_i h
    cases hz
    simp only [Bool.and_eq_true] at h
    exact ⟨_, _, r1.dp s h.1.1.1, r2.dp s h.1.1.2, h.1.2, h.2, res0 s q (r_bl _)⟩
  · cases hz
theorem Rp.flat {Hs H : Hp} {v : V} {d : D} {f : Fp} (r : Rp G Hs H v d f) (h : flatD d = true) : flatV v = true := by
  cases r <;> first | rfl | cases h
theorem Rps.flats {Hs H : Hp} : ∀ {vs : List V} {ds : List D} {f : Fp}, Rps G Hs H vs ds f → ds.all flatD = true → vs.all flatV = true
  | _, _, _, .nil _, _ => rfl
  | _, _, _, .cons r rs _, h => by
    rw [List.all_cons, Bool.and_eq_true] at h ⊢
    exact ⟨r.flat h.1, rs.flats h.2⟩
theorem Rp.eqf {Hs H : Hp} {v w : V} {d e : D} {f g : Fp} (r : Rp G Hs H v d f) (r2 : Rp G Hs H w e g) : eqV v w = eqF d e := by
  cases r <;> cases r2 <;> rfl
theorem Rps.inv {Hs H : Hp} {w : V} {e : D} {g : Fp} (r2 : Rp G Hs H w e g) : ∀ {vs : List V} {ds : List D} {f : Fp}, Rps G Hs H vs ds f → inV w vs = ds.any fun y => eqF y e
  | _, _, _, .nil _ => rfl
  | _, _, _, .cons r rs _ => by
    have ih := Rps.inv r2 rs
    unfold inV at ih ⊢
    rw [List.any_cons, List.any_cons, r.eqf r2, ih]
def rInS (neg : Bool) : R2 := fun x y H Q => ∃ i j, x = V.str i ∧ y = V.str j ∧ Q (V.bl (match neg with | true => !!(Builtin.Str.occurrences j i 0 j.length 1).isEmpty | false => !(Builtin.Str.occurrences j i 0 j.length 1).isEmpty)) H
def rInA (K : PySem.W.Frag) (neg : Bool) : R2 := fun x y H Q => rIn K neg x y H Q ∨ rInS neg x y H Q
theorem inS0 {Hs H : Hp} {v1 v2 : V} {d1 d2 z : D} {Q : VK} {neg : Bool} (s : Sm Hs H) {f1 f2 : Fp} (r1 : Rp G Hs H v1 d1 f1) (r2 : Rp G Hs H v2 d2 f2) (hz : inD d1 d2 = some z) (q : ∀ k, z = .bl k → Q (.bl (if neg then !k else k)) H) : rInA G.K neg v1 v2 H Q := by
  unfold inD at hz
  split at hz
  · split at hz
    · cases hz
      rw [r1.toS, r2.toS]
      refine .inr ⟨_, _, rfl, rfl, ?_⟩
      have := q _ rfl
      cases neg
      · exact this
      · simpa using this
    · cases hz
  · split at hz
    · rename_i b xs hs
      split at hz
      · rename_i h
        cases hz
        rw [Bool.and_eq_true] at h
        obtain ⟨a, vs, g, rfl, h1, h2, rs, _⟩ := r2.seq s hs
        refine .inl ⟨a, vs, rfl, ?_, r1.flat h.1, rs.flats h.2, ?_⟩
        · cases b
          · exact .inr (h2 rfl)
          · exact .inl (h1 rfl)
        · rw [rs.inv r1]
          exact q _ rfl
      · cases hz
    · cases hz
theorem inS : OpS G (rInA G.K false) inD := by
  intro Hs H v1 v2 d1 d2 z Q s r1 r2 hz q
  refine inS0 s r1 r2 hz fun k hk => ?_
  subst hk
  exact res0 s q (r_bl _)
theorem notInS : OpS G (rInA G.K true) notInD := by
  intro Hs H v1 v2 d1 d2 z Q s r1 r2 hz q
  unfold notInD at hz
  split at hz
  · rename_i k he
    cases hz
    refine inS0 s r1 r2 he fun k' hk => ?_
    cases hk
    exact res0 s q (r_bl _)
  · cases hz
end
theorem op_inA {X : Cx} : OpR X (compareOp .In) (rInA X.K false) := op_in_seq.or op_in_str
theorem op_notInA {X : Cx} : OpR X (compareOp .NotIn) (rInA X.K true) := op_notIn_seq.or op_notIn_str
end Bx

set_option Elab.async false
set_option linter.all false
set_option maxRecDepth 100000
set_option maxHeartbeats 1000000
/-! Arguments, calls of built-ins, displays, subscripts, slices. -/
namespace Bx
open PySem L2

def aNil : FA := fun e => .ok [] e
def aCons (a : FE) (r : FA) : FA := fun e => (a e).bind fun x e1 => (r e1).bind fun xs e2 => .ok (.d x :: xs) e2
def aIo (i : Nat) (r : FA) : FA := fun e => match e.sl[i]? with
  | some (some _) => (r e).bind fun xs e2 => .ok (.io i :: xs) e2
  | _ => .bad
/-- the data of arguments, looked at -/
def av (e : En) : AV → Option D
  | .d x => some x
  | .io i => (e.sl[i]?).getD none
def avs (e : En) : List AV → Option (List D)
  | [] => some []
  | a :: as => match av e a, avs e as with
    | some d, some ds => some (d :: ds)
    | _, _ => none
/-- the data of arguments, none of them a slot -/
def dvs : List AV → Option (List D)
  | [] => some []
  | .d x :: as => match dvs as with
    | some ds => some (x :: ds)
    | none => none
  | .io _ :: _ => none
/-- looked at: each stands somewhere -/
inductive Rpb (G : Gc) (Hs H : Hp) : List V → List D → Prop
  | nil : Rpb G Hs H [] []
  | cons {v d f vs ds} (r : Rp G Hs H v d f) (rs : Rpb G Hs H vs ds) : Rpb G Hs H (v :: vs) (d :: ds)
def CallB (G : Gc) (r : List V → Hp → VK → Prop) (g : List D → Option D) : Prop := ∀ {Hs H : Hp} {vs : List V} {ds : List D} {z : D} {Q : VK}, Sm Hs H → Rpb G Hs H vs ds → g ds = some z →
  (∀ v, Rp G Hs H v z f0 → Q v H) → r vs H Q
def eCallB (g : List D → Option D) (as : FA) : FE := fun e => (as e).bind fun as e1 => .opt ((avs e1 as).bind g) e1
def eCallF (g : List D → Option D) (as : FA) : FE := fun e => (as e).bind fun as e1 => .opt ((dvs as).bind fun ds => g (frzs ds)) e1
def eTup (as : FA) : FE := eCallF (fun ds => if ds.length ≤ lim then some (.nd .tup false ds) else none) as
def eLst (as : FA) : FE := fun e => (as e).bind fun as e1 => .opt ((dvs as).bind fun ds => if ds.length ≤ lim then some (.nd .lst true ds) else none) e1

theorem frzs_len : ∀ xs : List D, (frzs xs).length = xs.length
  | [] => rfl
  | x :: xs => by unfold frzs; rw [List.length_cons, List.length_cons, frzs_len xs]

section
variable {G : Gc} {Hs H : Hp} {σ : L2.St}
theorem Ra.look {e : En} {fe : Fp} (s : Sls G Hs H σ e.sl fe) : ∀ {vs : List V} {as : List AV} {ds : List D} {f : Fp}, Ra G Hs H σ vs as f → avs e as = some ds → Rpb G Hs H vs ds
  | _, _, _, _, .nil _, h => by cases h; exact .nil
  | _, _, ds, _, .d (x := x) (as := as) r rs _, h => by
    unfold avs at h
    simp only [av] at h
    cases h2 : avs e as with
    | none => rw [h2] at h; cases h
    | some ds' => rw [h2] at h; cases h; exact .cons r (Ra.look s rs h2)
  | _, _, ds, _, .io (v := v) (i := i) (as := as) hs rs, h => by
    unfold avs at h
    simp only [av] at h
    cases h1 : e.sl[i]? with
    | none => rw [h1] at h; cases h
    | some o =>
      cases o with
      | none => rw [h1] at h; cases h
      | some d =>
        rw [h1] at h
        cases h2 : avs e as with
        | none => rw [h2] at h; cases h
        | some ds' =>
          rw [h2] at h; cases h
          obtain ⟨w, f1, f2, e1, r1, _⟩ := s.get h1
          rw [hs] at e1; cases e1
          exact .cons r1 (Ra.look s rs h2)
theorem Ra.vals : ∀ {vs : List V} {as : List AV} {ds : List D} {f : Fp}, Ra G Hs H σ vs as f → dvs as = some ds → Rps G Hs H vs ds f
  | _, _, _, _, .nil z, h => by cases h; exact .nil z
  | _, _, ds, _, .d (x := x) (as := as) r rs e, h => by
    unfold dvs at h
    cases h2 : dvs as with
    | none => rw [h2] at h; cases h
    | some ds' => rw [h2] at h; cases h; exact .cons r (Ra.vals rs h2) e
  | _, _, ds, _, .io _ _, h => by unfold dvs at h; cases h
theorem Rps.rpb : ∀ {vs : List V} {ds : List D} {f : Fp}, Rps G Hs H vs ds f → Rpb G Hs H vs ds
  | _, _, _, .nil _ => .nil
  | _, _, _, .cons r rs _ => .cons r rs.rpb
end

section
variable {X : Cx} {C : Cc} {W : WX} {pos : Pos} {a b c : Expr} {es : List Expr} {Fa Fb Fc : FE} {As : FA}
theorem ba_nil : BA X C W [] aNil := pa_nil.imp fun σ H Q ⟨e, Hs, fe, P, ok, q⟩ => q [] Hs H fe f0 (Aft.refl _ _ _) ok (.nil fun _ => rfl)
theorem ba_cons (ha : BE X C W a Fa) (hs : BA X C W es As) (hst : starEach (a :: es) X.env = (false, eval a X.env) :: starEach es X.env) : BA X C W (a :: es) (aCons Fa As) :=
  (pa_cons ha hs hst).imp fun σ H Q ⟨e, Hs, fe, P, ok, q⟩ => by
    refine firstE ok q.bind fun d1 e1 v1 Hs1 H1 fe1 fv1 a1 ok1 r1 q1 => ?_
    refine bindA ok1 (.rp r1) (q1.shift a1).bind fun d2 e2 v2 Hs2 H2 fe2 fv2 a2 ok2 r1 r2 q2 => ?_
    exact q2 _ Hs2 H2 fe2 _ (a2.weak fun b hb => .inl hb) ok2 (.d r1 r2 fun _ => rfl)
theorem ba_io {i : Nat} (ha : PE X a (tVar i)) (hs : BA X C W es As) (hst : starEach (a :: es) X.env = (false, eval a X.env) :: starEach es X.env) : BA X C W (a :: es) (aIo i As) :=
  (pa_cons ha hs hst).imp fun σ H Q ⟨e, Hs, fe, P, ok, q⟩ => by
    unfold aIo at q
    cases h1 : e.sl[i]? with
    | none => rw [h1] at q; exact q.elim
    | some o =>
      cases o with
      | none => rw [h1] at q; exact q.elim
      | some d =>
        rw [h1] at q
        obtain ⟨v, f1, f2, e1, _⟩ := ok.sl.get h1
        refine ⟨v, e1, ?_⟩
        refine firstA ok (EndA.bind q) fun d2 e2 v2 Hs2 H2 fe2 fv2 a2 ok2 r2 q2 => ?_
        exact q2 _ Hs2 H2 fe2 fv2 a2 ok2 (.io e1 r2)

/-- a call of a built-in that only looks, and answers a scalar -/
theorem be_callB {e : Expr} {r : List V → Hp → VK → Prop} {g : List D → Option D} (hp : ∀ t, PA X es t → PE X e (tCB r t)) (hg : CallB C.toGc r g) (ha : BA X C W es As) : BE X C W e (eCallB g As) :=
  (hp _ ha).imp fun σ H Q ⟨e, Hs, fe, P, ok, q⟩ => by
    refine firstA ok q.bind fun as e1 vs Hs1 H1 fe1 fv1 a1 ok1 r1 q1 => ?_
    cases h : (avs e1 as).bind g with
    | none => rw [h] at q1; exact q1.elim
    | some z =>
      rw [h] at q1
      obtain ⟨ds, h1, h2⟩ := Option.bind_eq_some_iff.mp h
      exact hg ok1.sm (r1.look ok1.sl h1) h2 fun v rz => q1 v Hs1 H1 fe1 f0 a1 (ok1.less fun _ => Nat.zero_le _) rz
theorem be_callF {e : Expr} {r : List V → Hp → VK → Prop} {g : List D → Option D} (hp : ∀ t, PA X es t → PE X e (tCB r t)) (hg : CallS C.toGc r g) (ha : BA X C W es As) : BE X C W e (eCallF g As) :=
  (hp _ ha).imp fun σ H Q ⟨e, Hs, fe, P, ok, q⟩ => by
    refine firstA ok q.bind fun as e1 vs Hs1 H1 fe1 fv1 a1 ok1 r1 q1 => ?_
    cases h : (dvs as).bind fun ds => g (frzs ds) with
    | none => rw [h] at q1; exact q1.elim
    | some z =>
      rw [h] at q1
      obtain ⟨ds, h1, h2⟩ := Option.bind_eq_some_iff.mp h
      obtain ⟨Hs3, a3, ok3, r3⟩ := ok1.freezes (r1.vals h1)
      exact hg ok3.sm r3 h2 fun v Hs5 H5 fv n rz => (q1.shift (a1.trans a3)) v Hs5 H5 fe1 fv (n.aft ok3) ((ok3.new n fun _ h => absurd rfl h).fps (fun _ => rfl) fun _ => (Nat.zero_add _).symm) rz
/-- a tuple; a list whose items stay owned -/
theorem be_tup {x1} (ha : BA X C W es As) : BE X C W (.Tuple es x1 pos) (eTup As) :=
  (pe_tup ha).imp fun σ H Q ⟨e, Hs, fe, P, ok, q⟩ => by
    refine firstA ok q.bind fun as e1 vs Hs1 H1 fe1 fv1 a1 ok1 r1 q1 => ?_
    cases h : (dvs as).bind fun ds => (fun ds => if ds.length ≤ lim then some (D.nd .tup false ds) else none) (frzs ds) with
    | none => rw [h] at q1; exact q1.elim
    | some z =>
      rw [h] at q1
      obtain ⟨ds, h1, h2⟩ := Option.bind_eq_some_iff.mp h
      dsimp only at h2
      split at h2
      · rename_i hl
        cases h2
        obtain ⟨Hs3, a3, ok3, r3⟩ := ok1.freezes (r1.vals h1)
        refine ⟨by rw [r3.len]; exact lim_le hl, fun p hp => ?_⟩
        exact resTup (G := C.toGc) ok3.sm (fun v Hs5 H5 fv n rz => (q1.shift (a1.trans a3)) v Hs5 H5 fe1 fv (n.aft ok3) ((ok3.new n fun _ h => absurd rfl h).fps (fun _ => rfl) fun _ => (Nat.zero_add _).symm) rz) r3 hp
      · cases h2
theorem be_lst (ha : BA X C W es As) : BE X C W (.List es pos) (eLst As) :=
  (pe_lst ha).imp fun σ H Q ⟨e, Hs, fe, P, ok, q⟩ => by
    refine firstA ok q.bind fun as e1 vs Hs1 H1 fe1 fv1 a1 ok1 r1 q1 => ?_
    cases h : (dvs as).bind fun ds => if ds.length ≤ lim then some (D.nd .lst true ds) else none with
    | none => rw [h] at q1; exact q1.elim
    | some z =>
      rw [h] at q1
      obtain ⟨ds, h1, h2⟩ := Option.bind_eq_some_iff.mp h
      split at h2
      · rename_i hl
        cases h2
        have r3 := r1.vals h1
        refine ⟨by rw [r3.len]; exact lim_le hl, fun p hp => ?_⟩
        have n := New.obj (o := .lst vs) ok1.sm hp
        have hne : ∀ b, fv1 b ≠ 0 → b ≠ p := fun b hb z => (r3.live b hb).1 (z ▸ hp)
        exact (q1.shift a1) _ Hs1 _ fe1 _ (n.aft ok1) (ok1.new n fun b hb => (r3.live b hb).1) (newLst ok1.sm hp r3 hne)
      · cases h2
end
end Bx

set_option Elab.async false
set_option linter.all false
set_option maxRecDepth 100000
set_option maxHeartbeats 1000000
/-! Built-ins by their data. -/
namespace Bx
open PySem L2

def intsD : List D → Option (List Int)
  | [] => some []
  | .int i :: xs => (intsD xs).map (i :: ·)
  | _ => none
def blsD : List D → Option (List Bool)
  | [] => some []
  | .bl i :: xs => (blsD xs).map (i :: ·)
  | _ => none
theorem intsD_some : ∀ {xs : List D} {ns : List Int}, intsD xs = some ns → xs = ns.map D.int
  | [], _, h => by cases h; rfl
  | .int i :: xs, ns, h => by
    unfold intsD at h
    obtain ⟨ms, h1, rfl⟩ := Option.map_eq_some_iff.mp h
    rw [intsD_some h1]; rfl
  | .non :: _, _, h => by cases h
  | .bl _ :: _, _, h => by cases h
  | .str _ :: _, _, h => by cases h
  | .ty _ :: _, _, h => by cases h
  | .nd _ _ _ :: _, _, h => by cases h
theorem blsD_some : ∀ {xs : List D} {ns : List Bool}, blsD xs = some ns → xs = ns.map D.bl
  | [], _, h => by cases h; rfl
  | .bl i :: xs, ns, h => by
    unfold blsD at h
    obtain ⟨ms, h1, rfl⟩ := Option.map_eq_some_iff.mp h
    rw [blsD_some h1]; rfl
  | .non :: _, _, h => by cases h
  | .int _ :: _, _, h => by cases h
  | .str _ :: _, _, h => by cases h
  | .ty _ :: _, _, h => by cases h
  | .nd _ _ _ :: _, _, h => by cases h
@[simp] theorem intsD_map : ∀ ns : List Int, intsD (ns.map D.int) = some ns
  | [] => rfl
  | n :: ns => by rw [List.map_cons]; unfold intsD; rw [intsD_map ns]; rfl
@[simp] theorem blsD_map : ∀ ns : List Bool, blsD (ns.map D.bl) = some ns
  | [] => rfl
  | n :: ns => by rw [List.map_cons]; unfold blsD; rw [blsD_map ns]; rfl
def maxI : List Int → Int
  | [] => 0
  | [x] => x
  | x :: xs => if x < maxI xs then maxI xs else x
def minI : List Int → Int
  | [] => 0
  | [x] => x
  | x :: xs => if minI xs < x then minI xs else x
theorem maxI_mem : ∀ {ns : List Int}, ns ≠ [] → maxI ns ∈ ns
  | [], h => absurd rfl h
  | [x], _ => List.mem_singleton.mpr rfl
  | x :: y :: r, _ => by
    have ih := maxI_mem (ns := y :: r) (by simp)
    unfold maxI
    split
    · exact List.mem_cons_of_mem _ ih
    · exact List.mem_cons_self
theorem maxI_ge : ∀ {ns : List Int} {y : Int}, y ∈ ns → y ≤ maxI ns
  | [x], y, h => by rw [List.mem_singleton.mp h]; exact Int.le_refl _
  | x :: z :: r, y, h => by
    unfold maxI
    rcases List.mem_cons.mp h with rfl | h
    · split <;> omega
    · have ih := maxI_ge (ns := z :: r) h
      split <;> omega
theorem minI_mem : ∀ {ns : List Int}, ns ≠ [] → minI ns ∈ ns
  | [], h => absurd rfl h
  | [x], _ => List.mem_singleton.mpr rfl
  | x :: y :: r, _ => by
    have ih := minI_mem (ns := y :: r) (by simp)
    unfold minI
    split
    · exact List.mem_cons_of_mem _ ih
    · exact List.mem_cons_self
theorem minI_le : ∀ {ns : List Int} {y : Int}, y ∈ ns → minI ns ≤ y
  | [x], y, h => by rw [List.mem_singleton.mp h]; exact Int.le_refl _
  | x :: z :: r, y, h => by
    unfold minI
    rcases List.mem_cons.mp h with rfl | h
    · split <;> omega
    · have ih := minI_le (ns := z :: r) h
      split <;> omega

def lenD : List D → Option D
  | [.str x] => if x.length ≤ lim then some (.int x.length) else none
  | [d] => match d.seq with
    | some (_, xs) => some (.int xs.length)
    | none => none
  | _ => none
def intD : List D → Option D
  | [.int i] => some (.int i)
  | [.bl k] => some (.int (if k then 1 else 0))
  | _ => none
def absD : List D → Option D
  | [.int i] => some (.int (if i < 0 then -i else i))
  | _ => none
def maxD : List D → Option D
  | [.int i, .int j] => some (.int (if j > i then j else i))
  | [d] => match d.seq with
    | some (true, xs) => (match intsD xs with
      | some ns => if ns ≠ [] then some (.int (maxI ns)) else none
      | none => none)
    | _ => none
  | _ => none
def minD : List D → Option D
  | [.int i, .int j] => some (.int (if j < i then j else i))
  | [d] => match d.seq with
    | some (true, xs) => (match intsD xs with
      | some ns => if ns ≠ [] then some (.int (minI ns)) else none
      | none => none)
    | _ => none
  | _ => none
def sumD : List D → Option D
  | [d] => match d.seq with
    | some (true, xs) => (intsD xs).map fun ns => .int ns.sum
    | _ => none
  | _ => none
def allD : List D → Option D
  | [d] => match d.seq with
    | some (true, xs) => (blsD xs).map fun ns => .bl (ns.all id)
    | _ => none
  | _ => none
def anyD : List D → Option D
  | [d] => match d.seq with
    | some (true, xs) => (blsD xs).map fun ns => .bl (ns.any id)
    | _ => none
  | _ => none
def tyD : D → Option String
  | .non => some "NoneType" | .bl _ => some "bool" | .int _ => some "int" | .str _ => some "str" | .ty _ => none
  | .nd k _ _ => match k with
    | .lst => some "list" | .tup => some "tuple" | .dk _ => some "dict" | _ => none
def tyNs : List String := ["NoneType", "bool", "int", "str", "list", "tuple", "dict"]
def subT (t n : String) : Bool := t == n || (t == "bool" && n == "int")
theorem subT_kit : ∀ t ∈ tyNs, ∀ n ∈ tyNs, kitB t n = some (subT t n) := by decide +kernel
def tysD : List D → Option (List String)
  | [] => some []
  | .ty n :: xs => if tyNs.contains n then (tysD xs).map (n :: ·) else none
  | _ => none
def isiD : List D → Option D
  | [d, .ty n] => match tyD d with
    | some t => if tyNs.contains n then some (.bl (subT t n)) else none
    | none => none
  | [d, .nd .tup _ xs] => match tyD d, tysD xs with
    | some t, some ns => some (.bl (ns.any fun n => subT t n))
    | _, _ => none
  | _ => none
def reprD : List D → Option D
  | [.int i] => if i.natAbs.log2 < 1920 then some (.str (Str.ofString (toString i))) else none
  | [.str x] => if (reprText x).length ≤ lim then some (.str (reprText x)) else none
  | [.non] => some (.str "None")
  | [.bl k] => some (.str (if k then "True" else "False"))
  | _ => none
def strD : List D → Option D
  | [.int i] => if i.natAbs.log2 < 1920 then some (.str (Str.ofString (toString i))) else none
  | [.str x] => some (.str x)
  | _ => none
def listD : List D → Option D
  | [d] => match d.seq with
    | some (_, xs) => some (.nd .lst true xs)
    | none => none
  | _ => none
def tupleD : List D → Option D
  | [.nd .tup o xs] => some (.nd .tup false xs)
  | [d] => match d.seq with
    | some (true, xs) => some (.nd .tup false xs)
    | _ => none
  | _ => none

theorem CallR.or {X : Cx} {f : Value} {r r' : List V → Hp → VK → Prop} (h : CallR X f r) (h' : CallR X f r') : CallR X f (fun xs H Q => r xs H Q ∨ r' xs H Q) :=
  fun pins s σ H xs us Q I rv q => q.elim (h pins s σ H xs us Q I rv) (h' pins s σ H xs us Q I rv)
section
variable {G : Gc} {Hs H : Hp}
theorem Rpb.one {vs : List V} {d : D} (r : Rpb G Hs H vs [d]) : ∃ v f, vs = [v] ∧ Rp G Hs H v d f := by
  cases r with | cons r rs => cases rs with | nil => exact ⟨_, _, rfl, r⟩
theorem Rpb.two {vs : List V} {d e : D} (r : Rpb G Hs H vs [d, e]) : ∃ v f w g, vs = [v, w] ∧ Rp G Hs H v d f ∧ Rp G Hs H w e g := by
  cases r with | cons r rs => cases rs with | cons r2 rs => cases rs with | nil => exact ⟨_, _, _, _, rfl, r, r2⟩
theorem Rps.one {vs : List V} {d : D} {f : Fp} (r : Rps G Hs H vs [d] f) : ∃ v, vs = [v] ∧ Rp G Hs H v d f := by
  cases r with | cons r rs e => cases rs with | nil z => exact ⟨_, rfl, r.fp fun b => by rw [e b, z b]; rfl⟩
def rLenA (K : PySem.W.Frag) : List V → Hp → VK → Prop := fun xs H Q => ∃ x n, xs = [x] ∧ LenV K x H n ∧ Q (V.int ↑n) H
theorem lenS : CallB G (rLenA G.K) lenD := by
  intro Hs H vs ds z Q s r0 hz q
  unfold lenD at hz
  split at hz
  · split at hz
    · rename_i h
      cases hz
      obtain ⟨v, f, rfl, r⟩ := r0.one
      rw [r.toS]
      exact ⟨_, _, rfl, ⟨lim_le h, rfl⟩, q _ (r_int _)⟩
    · cases hz
  · split at hz
    · rename_i b xs h
      cases hz
      obtain ⟨v, f, rfl, r⟩ := r0.one
      obtain ⟨a, ws, g, rfl, h1, h2, rs, _⟩ := r.seq s h
      refine ⟨_, xs.length, rfl, ?_, q _ (r_int _)⟩
      cases b
      · exact .inr ⟨ws, h2 rfl, rs.len.symm⟩
      · exact .inl ⟨ws, h1 rfl, rs.len.symm⟩
    · cases hz
  · cases hz
def rInt1 : List V → Hp → VK → Prop := fun xs H Q => (∃ i, xs = [V.int i] ∧ Q (V.int i) H) ∨ ∃ k, xs = [V.bl k] ∧ Q (V.int (if k = true then 1 else 0)) H
theorem intS : CallB G rInt1 intD := by
  intro Hs H vs ds z Q s r0 hz q
  unfold intD at hz
  split at hz
  · cases hz
    obtain ⟨v, f, rfl, r⟩ := r0.one
    rw [r.toI]; exact .inl ⟨_, rfl, q _ (r_int _)⟩
  · cases hz
    obtain ⟨v, f, rfl, r⟩ := r0.one
    rw [r.toB]; exact .inr ⟨_, rfl, q _ (r_int _)⟩
  · cases hz
def rAbs : List V → Hp → VK → Prop := fun xs H Q => ∃ i, xs = [V.int i] ∧ Q (V.int (if i < 0 then -i else i)) H
theorem absS : CallB G rAbs absD := by
  intro Hs H vs ds z Q s r0 hz q
  unfold absD at hz
  split at hz
  · cases hz
    obtain ⟨v, f, rfl, r⟩ := r0.one
    rw [r.toI]; exact ⟨_, rfl, q _ (r_int _)⟩
  · cases hz
def rMaxA (K : PySem.W.Frag) : List V → Hp → VK → Prop := fun xs H Q => (∃ i j, xs = [V.int i, V.int j] ∧ Q (V.int (if j > i then j else i)) H) ∨ rMax K xs H Q
def rMinA (K : PySem.W.Frag) : List V → Hp → VK → Prop := fun xs H Q => (∃ i j, xs = [V.int i, V.int j] ∧ Q (V.int (if j < i then j else i)) H) ∨ rMin K xs H Q
theorem call_maxA {X : Cx} (hc : X.calm = true) : CallR X (.builtin "max") (rMaxA X.K) := CallR.or (call_max2 hc) (cr_max hc)
theorem call_minA {X : Cx} (hc : X.calm = true) : CallR X (.builtin "min") (rMinA X.K) := CallR.or (call_min2 hc) (cr_min hc)
theorem maxS : CallB G (rMaxA G.K) maxD := by
  intro Hs H vs ds z Q s r0 hz q
  unfold maxD at hz
  split at hz
  · cases hz
    obtain ⟨v, f, w, g, rfl, r, r2⟩ := r0.two
    rw [r.toI, r2.toI]; exact .inl ⟨_, _, rfl, q _ (r_int _)⟩
  · split at hz
    · rename_i h
      split at hz
      · rename_i ns hn
        split at hz
        · rename_i h0
          cases hz
          obtain ⟨v, f, rfl, r⟩ := r0.one
          obtain ⟨a, ws, g, rfl, h1, _, rs, _⟩ := r.seq s h
          rw [intsD_some hn] at rs
          refine .inr ⟨a, ns, rfl, by rw [← rs.ints]; exact h1 rfl, List.length_pos_iff.mpr h0, fun m hm hle => ?_⟩
          have e : m = maxI ns := Int.le_antisymm (maxI_ge hm) (hle _ (maxI_mem h0))
          rw [e]; exact q _ (r_int _)
        · cases hz
      · cases hz
    · cases hz
  · cases hz
theorem minS : CallB G (rMinA G.K) minD := by
  intro Hs H vs ds z Q s r0 hz q
  unfold minD at hz
  split at hz
  · cases hz
    obtain ⟨v, f, w, g, rfl, r, r2⟩ := r0.two
    rw [r.toI, r2.toI]; exact .inl ⟨_, _, rfl, q _ (r_int _)⟩
  · split at hz
    · rename_i h
      split at hz
      · rename_i ns hn
        split at hz
        · rename_i h0
          cases hz
          obtain ⟨v, f, rfl, r⟩ := r0.one
          obtain ⟨a, ws, g, rfl, h1, _, rs, _⟩ := r.seq s h
          rw [intsD_some hn] at rs
          refine .inr ⟨a, ns, rfl, by rw [← rs.ints]; exact h1 rfl, List.length_pos_iff.mpr h0, fun m hm hle => ?_⟩
          have e : m = minI ns := Int.le_antisymm (hle _ (minI_mem h0)) (minI_le hm)
          rw [e]; exact q _ (r_int _)
        · cases hz
      · cases hz
    · cases hz
  · cases hz
theorem sumS : CallB G (rSum G.K) sumD := by
  intro Hs H vs ds z Q s r0 hz q
  unfold sumD at hz
  split at hz
  · split at hz
    · rename_i h
      obtain ⟨ns, hn, rfl⟩ := Option.map_eq_some_iff.mp hz
      obtain ⟨v, f, rfl, r⟩ := r0.one
      obtain ⟨a, ws, g, rfl, h1, _, rs, _⟩ := r.seq s h
      rw [intsD_some hn] at rs
      exact ⟨a, ns, rfl, by rw [← rs.ints]; exact h1 rfl, q _ (r_int _)⟩
    · cases hz
  · cases hz
theorem allS : CallB G (rAll G.K) allD := by
  intro Hs H vs ds z Q s r0 hz q
  unfold allD at hz
  split at hz
  · split at hz
    · rename_i h
      obtain ⟨ns, hn, rfl⟩ := Option.map_eq_some_iff.mp hz
      obtain ⟨v, f, rfl, r⟩ := r0.one
      obtain ⟨a, ws, g, rfl, h1, _, rs, _⟩ := r.seq s h
      rw [blsD_some hn] at rs
      exact ⟨a, ns, rfl, by rw [← rs.bls]; exact h1 rfl, q _ (r_bl _)⟩
    · cases hz
  · cases hz
theorem anyS : CallB G (rAny G.K) anyD := by
  intro Hs H vs ds z Q s r0 hz q
  unfold anyD at hz
  split at hz
  · split at hz
    · rename_i h
      obtain ⟨ns, hn, rfl⟩ := Option.map_eq_some_iff.mp hz
      obtain ⟨v, f, rfl, r⟩ := r0.one
      obtain ⟨a, ws, g, rfl, h1, _, rs, _⟩ := r.seq s h
      rw [blsD_some hn] at rs
      exact ⟨a, ns, rfl, by rw [← rs.bls]; exact h1 rfl, q _ (r_bl _)⟩
    · cases hz
  · cases hz
theorem Rp.tyx {v : V} {d : D} {f : Fp} {t : String} (s : Sm Hs H) (r : Rp G Hs H v d f) (h : tyD d = some t) : TyX G.K H v (.type t) := by
  cases d with
  | non => cases h; rw [r.toN]; exact .base .non
  | bl k => cases h; rw [r.toB]; exact .base (.bl _)
  | int i => cases h; rw [r.toI]; exact .base (.int _)
  | str x => cases h; rw [r.toS]; exact .base (.str _)
  | ty n => cases h
  | nd k o xs =>
    obtain ⟨a, vs, g, rfl, rs, _, at_⟩ := r.nd s
    cases k with
    | lst =>
      cases h
      rcases at_ with h | ⟨h, _⟩ | ⟨h, _⟩
      · exact .base (.lst h)
      · exact .base (.lst (sm_lst s h))
      · cases h
    | tup =>
      cases h
      rcases at_ with h | ⟨h, _⟩ | ⟨h, _⟩
      · exact .base (.tup h)
      · exact .base (.tup (sm_tup s h))
      · cases h
    | dk ks =>
      cases h
      rcases at_ with h | ⟨h, _⟩ | ⟨h, _⟩
      · exact .base (.dK h.2)
      · rcases s _ _ h.2 with z | ⟨_, od, z⟩
        · exact .base (.dK z)
        · exact .fDict z
      · cases h
    | _ => cases h
theorem tyD_mem {d : D} {t : String} (h : tyD d = some t) : t ∈ tyNs := by
  cases d with
  | nd k o xs => cases k <;> cases h <;> decide
  | _ => cases h <;> decide
theorem tysD_some : ∀ {xs : List D} {ns : List String}, tysD xs = some ns → xs = ns.map D.ty ∧ ∀ n ∈ ns, n ∈ tyNs
  | [], _, h => by cases h; exact ⟨rfl, fun _ h => by cases h⟩
  | .ty n :: xs, ns, h => by
    unfold tysD at h
    split at h
    · rename_i hn
      obtain ⟨ms, h1, rfl⟩ := Option.map_eq_some_iff.mp h
      obtain ⟨e, k⟩ := tysD_some h1
      exact ⟨by rw [e]; rfl, fun m hm => by
        rcases List.mem_cons.mp hm with rfl | hm
        · exact List.contains_iff_mem.mp hn
        · exact k m hm⟩
    · cases h
  | .non :: _, _, h => by cases h
  | .bl _ :: _, _, h => by cases h
  | .int _ :: _, _, h => by cases h
  | .str _ :: _, _, h => by cases h
  | .nd _ _ _ :: _, _, h => by cases h
theorem Rps.tys : ∀ {vs : List V} {ns : List String} {g : Fp}, Rps G Hs H vs (ns.map D.ty) g → Paired ClsV vs (ns.map Value.type)
  | _, [], _, .nil _ => .nil
  | _, n :: ns, _, .cons r rs _ => by rw [r.toT]; exact .cons (.ty n) (Rps.tys rs)
theorem kitAny_ty {K : PySem.W.Frag} {t : String} (ht : t ∈ tyNs) : ∀ ns : List String, (∀ n ∈ ns, n ∈ tyNs) → PySem.W.kitAny K (.type t) (ns.map Value.type) = some (ns.any fun n => subT t n)
  | [], _ => rfl
  | n :: ns, h => by
    have h1 := subT_kit t ht n (h n List.mem_cons_self)
    have ih := kitAny_ty (K := K) ht ns fun m hm => h m (List.mem_cons_of_mem _ hm)
    refine kitAny_cons (kit_ty h1) (fun e => ?_) fun e => ?_
    · rw [ih, List.any_cons, e]; rfl
    · rw [List.any_cons, e]; rfl
def rIsiA (K : PySem.W.Frag) : List V → Hp → VK → Prop := fun xs H Q => rIsi K xs H Q ∨ rIsiT K xs H Q
theorem call_isiA {X : Cx} : CallR X (.builtin "isinstance") (rIsiA X.K) := CallR.or call_isi call_isiT
theorem isiS : CallB G (rIsiA G.K) isiD := by
  intro Hs H vs ds z Q s r0 hz q
  unfold isiD at hz
  split at hz
  · split at hz
    · rename_i t ht
      split at hz
      · rename_i hn
        cases hz
        obtain ⟨v, f, w, g, rfl, r, r2⟩ := r0.two
        rw [r2.toT]
        exact .inl ⟨_, _, _, _, _, rfl, .ty _, r.tyx s ht, kit_ty (subT_kit _ (tyD_mem ht) _ (List.contains_iff_mem.mp hn)), q _ (r_bl _)⟩
      · cases hz
    · cases hz
  · split at hz
    · rename_i t ns ht hn
      cases hz
      obtain ⟨v, f, w, g, rfl, r, r2⟩ := r0.two
      obtain ⟨a, ws, g', rfl, rs, _, at_⟩ := r2.nd s
      obtain ⟨e, k⟩ := tysD_some hn
      rw [e] at rs
      have ha : H a = some (.tup ws) := by
        rcases at_ with h | ⟨h, _⟩ | ⟨h, _⟩
        · exact h
        · exact sm_tup s h
        · cases h
      exact .inr ⟨_, _, _, _, _, _, rfl, ha, rs.tys, r.tyx s ht, kitAny_ty (tyD_mem ht) ns k, q _ (r_bl _)⟩
    · cases hz
  · cases hz
def rRepr : List V → Hp → VK → Prop := fun xs H Q => (∃ i, xs = [.int i] ∧ i.natAbs.log2 < 1920 ∧ Q (.str (Str.ofString (toString i))) H) ∨ (∃ x, xs = [.str x] ∧ (reprText x).length ≤ sizeLine ∧ Q (.str (reprText x)) H) ∨
  (xs = [.non] ∧ Q (.str "None") H) ∨ ∃ k, xs = [.bl k] ∧ Q (.str (if k then "True" else "False")) H
theorem call_repr {X : Cx} : CallR X (.builtin "repr") rRepr := by
  intro pins s σ H xs us Q I r h
  rcases h with ⟨i, rfl, hz, q⟩ | ⟨x, rfl, hz, q⟩ | ⟨rfl, q⟩ | ⟨k, rfl, q⟩
  · cases r with | cons r rs =>
    cases rs
    obtain ⟨t, rfl⟩ := r
    exact PySem.P.repr_of_int hz ⟨.str _, H, I.tok _, ⟨_, rfl⟩, q⟩
  · cases r with | cons r rs =>
    cases rs
    obtain ⟨t, rfl⟩ := r
    exact PySem.P.repr_of_str ⟨.str _, H, I.tok _, ⟨_, rfl⟩, q⟩ hz
  · cases r with | cons r rs =>
    cases rs
    cases r
    exact PySem.P.repr_of_none ⟨.str _, H, I.tok _, ⟨_, rfl⟩, q⟩
  · cases r with | cons r rs =>
    cases rs
    cases r
    refine PySem.P.repr_of_bool ⟨.str _, H, I.tok _, ⟨_, rfl⟩, ?_⟩
    cases k <;> exact q
theorem reprS : CallB G rRepr reprD := by
  intro Hs H vs ds z Q s r0 hz q
  unfold reprD at hz
  split at hz
  · split at hz
    · rename_i h
      cases hz
      obtain ⟨v, f, rfl, r⟩ := r0.one
      rw [r.toI]; exact .inl ⟨_, rfl, h, q _ (r_str _)⟩
    · cases hz
  · split at hz
    · rename_i h
      cases hz
      obtain ⟨v, f, rfl, r⟩ := r0.one
      rw [r.toS]; exact .inr (.inl ⟨_, rfl, lim_le h, q _ (r_str _)⟩)
    · cases hz
  · cases hz
    obtain ⟨v, f, rfl, r⟩ := r0.one
    rw [r.toN]; exact .inr (.inr (.inl ⟨rfl, q _ (r_str _)⟩))
  · cases hz
    obtain ⟨v, f, rfl, r⟩ := r0.one
    rw [r.toB]; exact .inr (.inr (.inr ⟨_, rfl, q _ (r_str _)⟩))
  · cases hz
def rStrA : List V → Hp → VK → Prop := fun xs H Q => (∃ i, xs = [V.int i] ∧ i.natAbs.log2 < 1920 ∧ Q (V.str (PySem.Str.ofString (toString i))) H) ∨ ∃ a, xs = [.str a] ∧ Q (.str a) H
theorem call_strA {X : Cx} : CallR X (.type "str") rStrA := CallR.or call_str_int SkE.call_str_str
theorem strS : CallB G rStrA strD := by
  intro Hs H vs ds z Q s r0 hz q
  unfold strD at hz
  split at hz
  · split at hz
    · rename_i h
      cases hz
      obtain ⟨v, f, rfl, r⟩ := r0.one
      rw [r.toI]; exact .inl ⟨_, rfl, h, q _ (r_str _)⟩
    · cases hz
  · cases hz
    obtain ⟨v, f, rfl, r⟩ := r0.one
    rw [r.toS]; exact .inr ⟨_, rfl, q _ (r_str _)⟩
  · cases hz
def rListA (K : PySem.W.Frag) : List V → Hp → VK → Prop := fun xs H Q => ∃ p ys, xs = [V.ref p] ∧ (SqL K H p ys ∨ SqT K H p ys) ∧ ∀ (l : Addr), H l = none → Q (V.ref l) (upd H l (HO.lst ys))
theorem listS : CallS G (rListA G.K) listD := by
  intro Hs H vs ds z Q s r0 hz q
  unfold listD at hz
  split at hz
  · split at hz
    · rename_i b xs h
      cases hz
      obtain ⟨v, rfl, r⟩ := r0.one
      obtain ⟨a, ws, g, rfl, h1, h2, rs, le⟩ := r.seq s h
      refine ⟨a, ws, rfl, ?_, fun l hl => resLst s q (rs.z le) hl⟩
      cases b
      · exact .inr (h2 rfl)
      · exact .inl (h1 rfl)
    · cases hz
  · cases hz
def rTupleA (K : PySem.W.Frag) : List V → Hp → VK → Prop := fun xs H Q => ∃ p ys, xs = [V.ref p] ∧ ((SqL K H p ys ∧ ∀ (l : Addr), H l = none → Q (V.ref l) (upd H l (HO.tup ys))) ∨ SqT K H p ys ∧ Q (V.ref p) H)
theorem tupleS : CallS G (rTupleA G.K) tupleD := by
  intro Hs H vs ds z Q s r0 hz q
  unfold tupleD at hz
  split at hz
  · cases hz
    obtain ⟨v, rfl, r⟩ := r0.one
    have r' := r
    cases r with
    | sh h rs z => exact ⟨_, _, rfl, .inr ⟨SqT.of (sm_tup s h), q _ Hs H f0 (New.refl s) (.sh h rs z)⟩⟩
    | own h w n rs e => have := e ‹Addr›; rw [if_pos rfl] at this; simp only [f0] at this; omega
  · split at hz
    · rename_i h
      cases hz
      obtain ⟨v, rfl, r⟩ := r0.one
      obtain ⟨a, ws, g, rfl, h1, h2, rs, le⟩ := r.seq s h
      exact ⟨a, ws, rfl, .inl ⟨h1 rfl, fun l hl => resTup s q (rs.z le) hl⟩⟩
    · cases hz
  · cases hz
end
end Bx

set_option Elab.async false
set_option linter.all false
set_option maxRecDepth 100000
set_option maxHeartbeats 1000000
/-! Dicts whose keys are tuples of any depth: what they answer, at values. -/
namespace Bx
open PySem L2
mutual
/-- data as a key -/
def nkD : D → Option NestedKey
  | .non => some .none
  | .bl b => some (.num (if b = true then 1 else 0))
  | .int i => some (.num i)
  | .str x => some (.text x)
  | .ty _ => none
  | .nd k _ xs => match k with
    | .tup => (nksD xs).map .tup
    | .wt => (nksD xs).map .tup
    | _ => none
def nksD : List D → Option (List NestedKey)
  | [] => some []
  | d :: ds => (nkD d).bind fun k => (nksD ds).map (k :: ·)
end
def NestedKey.fits (k : NestedKey) : Bool := decide (k.depth ≤ 8)
/-- a tuple as a key -/
def tnkD (d : D) : Option NestedKey := match d with
  | .nd _ _ _ => (nkD d).bind fun k => if NestedKey.fits k then some k else none
  | _ => none
mutual
inductive NkV (K : PySem.W.Frag) (H : Hp) : NestedKey → V → Prop
  | non : NkV K H .none .non
  | bl {b} : NkV K H (.num (if b = true then 1 else 0)) (.bl b)
  | int {i} : NkV K H (.num i) (.int i)
  | str {x} : NkV K H (.text x) (.str x)
  | tup {a vs ks} (h : SqT K H a vs) (r : NkVs K H ks vs) : NkV K H (.tup ks) (.ref a)
inductive NkVs (K : PySem.W.Frag) (H : Hp) : List NestedKey → List V → Prop
  | nil : NkVs K H [] []
  | cons {k v ks vs} (h : NkV K H k v) (r : NkVs K H ks vs) : NkVs K H (k :: ks) (v :: vs)
end
section
variable {G : Gc} {Hs H : Hp}
mutual
theorem Rp.nkv (s : Sm Hs H) {v : V} {d : D} {f : Fp} {k : NestedKey} (r : Rp G Hs H v d f) (h : nkD d = some k) : NkV G.K H k v := by
  cases d with
  | non => cases h; rw [r.toN]; exact .non
  | bl b => cases h; rw [r.toB]; exact .bl
  | int i => cases h; rw [r.toI]; exact .int
  | str x => cases h; rw [r.toS]; exact .str
  | ty n => cases h
  | nd c o xs =>
    have hx : (nksD xs).map NestedKey.tup = some k ∧ (D.nd c o xs).seq = some (false, xs) := by
      unfold nkD at h
      cases c <;> first | exact ⟨h, rfl⟩ | cases h
    obtain ⟨ks, hk, rfl⟩ := Option.map_eq_some_iff.mp hx.1
    obtain ⟨a, vs, g, rfl, _, t, rs, _⟩ := r.seq s hx.2
    exact .tup (t rfl) (Rps.nkv s rs hk)
termination_by sizeOf d
theorem Rps.nkv (s : Sm Hs H) {vs : List V} {ds : List D} {f : Fp} {ks : List NestedKey} (r : Rps G Hs H vs ds f) (h : nksD ds = some ks) : NkVs G.K H ks vs := by
  cases ds with
  | nil => cases h; cases r; exact .nil
  | cons d ds =>
    cases r with
    | cons r rs _ =>
      unfold nksD at h
      obtain ⟨k, h1, h2⟩ := Option.bind_eq_some_iff.mp h
      obtain ⟨ks', h3, rfl⟩ := Option.map_eq_some_iff.mp h2
      exact .cons (Rp.nkv s r h1) (Rps.nkv s rs h3)
termination_by sizeOf ds
end
end
section
variable {X : Cx} {pins : List (Addr × Obj)} {σ : L2.St} {H : Hp} {s : Shared}
mutual
theorem NkV.held (I : Inv X pins σ H s) : ∀ {k : NestedKey} {v : V} {u : Value}, NkV X.K H k v → RelV v u → NestedIs s.heap k u
  | _, _, _, .non, e => by cases (show _ = Value.none from e); exact NestedIs.none
  | _, _, _, .bl, e => by cases (show _ = Value.bool _ from e); exact NestedIs.bool rfl
  | _, _, _, .int, ⟨t, e⟩ => by cases e; exact NestedIs.int _ _
  | _, _, _, .str, ⟨t, e⟩ => by cases e; exact NestedIs.text _ _
  | _, _, _, .tup h r, e => by
    cases (show _ = Value.ref _ from e)
    obtain ⟨its, rel, ⟨o, h1, h2, n, h3⟩, _⟩ := I.tuple h
    exact .tup h1 h2 h3 (by simpa using NkVs.held I r rel)
theorem NkVs.held (I : Inv X pins σ H s) : ∀ {ks : List NestedKey} {vs : List V} {us : List Value}, NkVs X.K H ks vs → Vals vs us → NestedAll s.heap ks us
  | _, _, _, .nil, .nil => .nil
  | _, _, _, .cons h r, .cons e es => .cons (NkV.held I h e) (NkVs.held I r es)
end
end
/-! ### the entries -/
abbrev NEs := List (NestedKey × V × V)
def nAt (es : NEs) (k : NestedKey) : Option V := (es.find? fun p => decide (p.1 = k)).map (·.2.2)
def nPut (es : NEs) (k : NestedKey) (b v : V) : NEs := if (nAt es k).isSome then es.map fun p => if p.1 = k then (p.1, p.2.1, v) else p else es ++ [(k, b, v)]
abbrev NRel (p : NestedKey × V × V) (q : NestedKey × Addr × Value) : Prop := p.1 = q.1 ∧ p.2.1 = .ref q.2.1 ∧ RelV p.2.2 q.2.2
/-- what the object itself has there -/
def NFound (xs : List (NestedKey × Addr × Value)) (k : NestedKey) (o : Option V) : Prop := match o with
  | none => atKey xs k = none
  | some v => ∃ q, atKey xs k = some q ∧ RelV v q.2
theorem nAt_rel {k : NestedKey} : ∀ {es : NEs} {xs : List (NestedKey × Addr × Value)}, Paired NRel es xs → NFound xs k (nAt es k)
  | [], _, .nil => rfl
  | p :: es, q :: xs, .cons r t => by
    have ih := nAt_rel (k := k) t
    by_cases e : p.1 = k
    · rw [show nAt (p :: es) k = some p.2.2 by unfold nAt; rw [List.find?_cons, decide_eq_true e]; rfl]
      exact ⟨q.2, by unfold atKey; rw [List.find?_cons, ← r.1, decide_eq_true e]; rfl, r.2.2⟩
    · rw [show nAt (p :: es) k = nAt es k by unfold nAt; rw [List.find?_cons, decide_eq_false e]]
      have e2 : atKey (q :: xs) k = atKey xs k := by unfold atKey; rw [List.find?_cons, ← r.1, decide_eq_false e]
      unfold NFound at ih ⊢
      rw [e2]
      exact ih
theorem nPut_rel {es : NEs} {xs : List (NestedKey × Addr × Value)} {k : NestedKey} {b : Addr} {v : V} {u : Value} (r : Paired NRel es xs) (rv : RelV v u) : Paired NRel (nPut es k (.ref b) v) (storedH xs k b u) := by
  have h := nAt_rel (k := k) r
  have app : ∀ {es : NEs} {xs : List (NestedKey × Addr × Value)}, Paired NRel es xs → Paired NRel (es ++ [(k, V.ref b, v)]) (xs ++ [(k, b, u)]) := fun r => by
    induction r with
    | nil => exact .cons ⟨rfl, rfl, rv⟩ .nil
    | cons r t ih => exact .cons r ih
  have mp : ∀ {es : NEs} {xs : List (NestedKey × Addr × Value)}, Paired NRel es xs → Paired NRel (es.map fun p => if p.1 = k then (p.1, p.2.1, v) else p) (xs.map (putAt k u)) := fun r => by
    induction r with
    | nil => exact .nil
    | @cons p q es xs r t ih =>
      refine .cons ?_ ih
      unfold putAt
      dsimp only
      rw [← r.1]
      by_cases e : p.1 = k
      · rw [if_pos e, if_pos e]; exact ⟨rfl, r.2.1, rv⟩
      · rw [if_neg e, if_neg e]; exact r
  unfold nPut storedH
  cases hn : nAt es k with
  | none =>
    rw [hn] at h
    rw [show atKey xs k = none from h]
    exact app r
  | some w =>
    rw [hn] at h
    obtain ⟨q, hq, _⟩ := h
    rw [hq]
    exact mp r
/-- what y finds in the dict at a -/
structure NGet (K : PySem.W.Frag) (P : Program) (w : World) (H : Hp) (a : Addr) (y : V) (o : Option V) : Prop where
  ex : ∃ es k b, Rd H a (nDict P w a es) ∧ y = .ref b ∧ (NkV K H k y ∧ k.depth ≤ 8) ∧ (∀ p ∈ es, NkV K H p.1 p.2.1 ∧ p.1.depth ≤ 8) ∧ o = nAt es k
section
variable {X : Cx} {pins : List (Addr × Obj)} {σ : L2.St} {H : Hp} {s : Shared}
theorem NRel.keys (I : Inv X pins σ H s) : ∀ {es : NEs} {xs : List (NestedKey × Addr × Value)}, Paired NRel es xs → (∀ p ∈ es, NkV X.K H p.1 p.2.1 ∧ p.1.depth ≤ 8) → ∀ x ∈ xs, (nestedKind X.prog X.w).is s.heap x.1 x.2.1
  | _, _, .nil, _, x, hx => by cases hx
  | p :: _, q :: _, .cons r t, ks, x, hx => by
    rcases List.mem_cons.mp hx with rfl | hx
    · have hk := ks p List.mem_cons_self
      rw [← r.1]
      exact ⟨hk.1.held I (by rw [r.2.1]; rfl), hk.2⟩
    · exact NRel.keys I t (fun p hp => ks p (List.mem_cons_of_mem _ hp)) x hx
/-- the dict's object -/
theorem nDict_at {a : Addr} {es : NEs} (I : Inv X pins σ H s) (h : Rd H a (nDict X.prog X.w a es)) (ks : ∀ p ∈ es, NkV X.K H p.1 p.2.1 ∧ p.1.depth ≤ 8) :
    (a == sysModules) = false ∧ es.length ≤ sizeLine ∧ ∃ xs, Paired NRel es xs ∧ s.heap.DictOfH (nestedKind X.prog X.w) a xs := by
  obtain ⟨⟨h1, h2, xs, rel, o, ds, ep, e1, e2, e3, e4, e5⟩, _⟩ := (show ObjOk X.prog X.w H s.heap a (nDict X.prog X.w a es) from h.ok I.hok)
  exact ⟨h1, h2, xs, rel, o, ds, ep, e1, e2, e3, e4, NRel.keys I rel ks, e5⟩
theorem nroom {A : Around} (hu : A.units + 64 < cLine) {P : Program} {w : World} : (nestedKind P w).room A.in1 := by show A.units + 1 + 8 < cLine; omega
/-- what is asked of the dict's own object -/
theorem NGet.asks {a : Addr} {y : V} {o : Option V} {u : Value} (I : Inv X pins σ H s) (g : NGet X.K X.prog X.w H a y o) (ry : RelV y u) :
    ∃ b k xs, u = .ref b ∧ (nestedKind X.prog X.w).is s.heap k b ∧ (a == sysModules) = false ∧ s.heap.DictOfH (nestedKind X.prog X.w) a xs ∧ NFound xs k o := by
  obtain ⟨es, k, b, rd, rfl, hk, hes, rfl⟩ := g.ex
  cases (show u = Value.ref b from ry)
  obtain ⟨h1, h2, xs, rel, dh⟩ := nDict_at I rd hes
  exact ⟨b, k, xs, rfl, ⟨hk.1.held I rfl, hk.2⟩, h1, dh, nAt_rel rel⟩
end
def rNIx (K : PySem.W.Frag) (P : Program) (w : World) : R2 := fun x y H Q => ∃ a v, x = V.ref a ∧ NGet K P w H a y (some v) ∧ Q v H
theorem ix_ndict {X : Cx} (hu : X.A.units + 64 < cLine) : IxR X (rNIx X.K X.prog X.w) := fun value slice pins s σ H x y v u Q I rx ry h hs => by
  obtain ⟨a, w, rfl, g, q⟩ := h
  obtain ⟨b, k, xs, rfl, ik, _, dh, p, hp, rp⟩ := g.asks I ry
  cases rx
  exact PyProof.Rows.tail_any dh.typeIs PySem.F.slot_dict_getitem.lookup (wpAny_getItem_heap (nroom hu) ik dh hp ⟨w, H, I.tok _, rp, q⟩) hs
/-- y in the dict at a -/
def rNIn (K : PySem.W.Frag) (P : Program) (w : World) (neg : Bool) : R2 := fun y x H Q => ∃ a o, x = V.ref a ∧ NGet K P w H a y o ∧ Q (V.bl (if neg then !o.isSome else o.isSome)) H
theorem NGet.some? {k : NestedKey} {xs : List (NestedKey × Addr × Value)} {o : Option V} (h : NFound xs k o) : (valueAt (pairsH xs) k).isSome = o.isSome := by
  rw [valueAt_pairsH]
  cases o with
  | none => rw [show atKey xs k = none from h]; rfl
  | some v => obtain ⟨q, hq, _⟩ := h; rw [hq]; rfl
theorem op_inN {X : Cx} (hu : X.A.units + 64 < cLine) : OpR X (compareOp .In) (rNIn X.K X.prog X.w false) := fun pins s σ H y x u v Q I ry rx h => by
  obtain ⟨a, o, rfl, g, q⟩ := h
  obtain ⟨b, k, xs, rfl, ik, hd, dh, hq⟩ := g.asks I ry
  cases rx
  exact in_keyed (nroom hu) ik hd ⟨xs, dh, rfl⟩ ⟨_, H, I.tok _, by rw [NGet.some? hq]; rfl, q⟩
theorem op_notInN {X : Cx} (hu : X.A.units + 64 < cLine) : OpR X (compareOp .NotIn) (rNIn X.K X.prog X.w true) := fun pins s σ H y x u v Q I ry rx h => by
  obtain ⟨a, o, rfl, g, q⟩ := h
  obtain ⟨b, k, xs, rfl, ik, hd, dh, hq⟩ := g.asks I ry
  cases rx
  exact notIn_keyed (nroom hu) ik hd ⟨xs, dh, rfl⟩ ⟨_, H, I.tok _, by rw [NGet.some? hq]; rfl, q⟩
/-- the dict at a, y stored -/
def rNPut (K : PySem.W.Frag) (P : Program) (w : World) : TSet := fun x y v H Q => ∃ a es k b, x = V.ref a ∧ H a = some (nDict P w a es) ∧ y = .ref b ∧ (NkV K H k y ∧ k.depth ≤ 8) ∧ (∀ p ∈ es, NkV K H p.1 p.2.1 ∧ p.1.depth ≤ 8) ∧ es.length < sizeLine ∧ Q (upd H a (nDict P w a (nPut es k y v)))
theorem nPut_len {es : NEs} {k : NestedKey} {b v : V} : (nPut es k b v).length ≤ es.length + 1 := by
  unfold nPut
  split <;> simp
theorem set_ndict {X : Cx} (hu : X.A.units + 64 < cLine) : PSet X (rNPut X.K X.prog X.w) := fun pins s σ H x y v ov iv u Q I rx ry rv h => by
  obtain ⟨a, es, k, b, rfl, he, rfl, hk, hes, hl, q⟩ := h
  cases rx
  cases (show iv = Value.ref b from ry)
  obtain ⟨h1, h2, xs, rel, dh⟩ := nDict_at I (.of he) hes
  have hx : xs.length ≤ sizeLine := by rw [← Paired.length rel]; exact h2
  refine wpAny_setItem_heap (hsz := hx) (nroom hu) ⟨hk.1.held I rfl, hk.2⟩ dh fun h' hm hs => ⟨_, ?_, q⟩
  obtain ⟨o, ds, ep, e1, e2, e3, e4, _, e5⟩ := hm
  refine d_write I (by rw [he]; exact True.intro) hs ⟨o, e1⟩ ?_
  refine ⟨⟨h1, Nat.le_trans nPut_len hl, _, nPut_rel rel rv, o, ds, ep, e1, e2, e3, e4, e5⟩, ⟨o, e1⟩, fun h1 h2 hh k => ?_⟩
  obtain ⟨g1, g2, ys, r2, o2, ds2, ep2, f1, f2⟩ := hh
  exact ⟨g1, g2, ys, r2, o2, ds2, ep2, k _ f1, f2⟩
/-- d.get(y, z) -/
theorem get_ndict {X : Cx} {pins : List (Addr × Obj)} {σ : L2.St} {H : Hp} {s : Shared} {a : Addr} {y z : V} {u r : Value} {o : Option V} {E : Value → Shared → Prop} {Q : Value → Shared → Prop} (hu : X.A.units + 64 < cLine) (I : Inv X pins σ H s) (g : NGet X.K X.prog X.w H a y o) (ry : RelV y u) (rz : RelV z r)
    (h : ∀ w' s', Inv X pins σ H s' → RelV (o.getD z) w' → Q w' s') : wpAny (model X.prog X.w) X.A (call (.builtin "dict.get") [.ref a, u, r]) Q E s := by
  obtain ⟨b, k, xs, rfl, ik, hd, dh, hq⟩ := g.asks I ry
  refine call_meetsIn PySem.F.slot_dict_get dh.typeIs PySem.F.entry_dict_get (PySem.F.args_dict_get_3 _ _ _) (meetsH_dict_get_default _ a b hd r) ⟨nroom hu, k, xs, ik, dh, h _ _ (I.tok _) ?_⟩
  cases o with
  | none => rw [show atKey xs k = none from hq]; exact rz
  | some v => obtain ⟨p, hp, rp⟩ := hq; rw [hp]; exact rp
end Bx

set_option Elab.async false
set_option linter.all false
set_option maxRecDepth 100000
set_option maxHeartbeats 1000000
/-! Whether a tuple of ints stands in a set of such. -/
namespace Bx
open PySem L2
section
variable {P : Program} {w : World} {A : Around} {E : Value → Shared → Prop} {s : Shared} {a : Addr} {L : List (Addr × List Int)} {es : Array (Int × Value)} {ep : Nat} {t : SetTable}
/-- where the search stands behind c steps of its way -/
abbrev spot (t : SetTable) (h : Int) (c : Nat) : SetTable.Probe := nth t.mask (runAt t.mask (SetTable.bits h % (t.mask + 1)) (SetTable.bits h)) c
theorem spot_dummy {t : SetTable} {h : Int} : ∀ c, (spot t h c).dummy = none := by
  have go : ∀ (c : Nat) (p : SetTable.Probe), p.dummy = none → (nth t.mask p c).dummy = none := fun c => by
    induction c with
    | zero => exact fun _ e => e
    | succ c ih => exact fun p e => ih _ (by unfold adv; split <;> exact e)
  exact fun c => go c _ rfl
theorem spot_on {t : SetTable} {h : Int} {c q : Nat} : nth t.mask (spot t h c) q = spot t h (c + q) := (nth_add t.mask c _ q).symm
/-- the places rise: one place, one entry -/
theorem place_one {t : SetTable} (r : Ris t.place.toList) {i j x : Nat} (hi : t.place.toList[i]? = some x) (hj : t.place.toList[j]? = some x) : i = j := by
  rcases Nat.lt_trichotomy i j with z | z | z
  · exact absurd (ris_lt r hi hj z) (Nat.lt_irrefl _)
  · exact z
  · exact absurd (ris_lt r hj hi z) (Nat.lt_irrefl _)
/-- what is known of a way that has come so far without the key -/
def Unmet (P : Program) (w : World) (t : SetTable) (L : List (Addr × List Int)) (k : List Int) (c : Nat) : Prop := ∀ (b i : Nat) p, b < c → t.place.toList[i]? = some (spot t (thash P w k) b).j → L[i]? = some p → p.2 ≠ k
theorem SetTR.hunt (R : SetTR P w s.heap a L es ep t) {x : Addr} {k : List Int} (hx : IsT P w s.heap k x) (hu : A.units < cLine) {last : Nat} (bound : last < 10 * SetTable.turns t.mask)
    (free : (spot t (thash P w k) last).j ∉ t.place.toList) (taken : ∀ b, b < last → (spot t (thash P w k) b).j ∈ t.place.toList) {Q : SetFound → Shared → Prop}
    (yes : ∀ i, k ∈ L.map (·.2) → Q (.there (some i)) s) (no : ∀ j, k ∉ L.map (·.2) → Q (.free j false) s) :
    ∀ (fuel : Nat) (stand : Option SetTable.Probe) (c : Nat), last - c < fuel → c ≤ last → stand.getD (t.probeStart (thash P w k)) = spot t (thash P w k) c → Unmet P w t L k c →
      wpAny (model P w) A (setSearchFrom a (.ref x) (thash P w k) false fuel stand) Q E s := by
  obtain ⟨o, ho, hex, hd⟩ := R.ob
  intro fuel
  induction fuel with
  | zero => exact fun _ _ h => absurd h (Nat.not_lt_zero _)
  | succ fuel ih =>
    intro stand c hf hc st un
    rw [setSearchFrom_succ]
    refine wpAny_bind (wpAny_setState_of ho hd R.fits ?_)
    dsimp only
    refine wp_if_neg R.gw ?_
    try refine wpAny_bind (wpAny_pure ?_)
    rw [st]
    have hashes : ∀ (i : Nat) p, L[i]? = some p → (es[i]?.map (·.1)).getD 0 = thash P w p.2 := fun i p hp => by rw [R.entry hp]; rfl
    have owner : ∀ i j : Nat, t.place.toList[i]? = some j → ∃ p, L[i]? = some p := fun i j hi => by
      have h1 := (List.getElem?_eq_some_iff.mp hi).1
      have h2 := R.tab.sz
      rw [List.length_map] at h2
      rw [Array.length_toList, h2] at h1
      exact ⟨_, List.getElem?_eq_getElem h1⟩
    have asked := go_spec t R.tab.ris R.tab.dm (fun i => (es[i]?.map (·.1)).getD 0) (thash P w k) (10 * SetTable.turns t.mask) (last - c) (spot t (thash P w k) c) (spot_dummy c) (by omega)
      (fun b hb => by rw [spot_on]; exact taken _ (by omega)) (by rw [spot_on, Nat.add_sub_cancel' hc]; exact free)
    rcases asked with ⟨q, i, hq, hi, hh, others, e⟩ | ⟨others, e⟩
    · -- an entry of the same hash
      rw [spot_on] at hi
      obtain ⟨p, hp⟩ := owner i _ hi
      have ent := R.entry hp
      have e : t.probe (fun i => (es[i]?.map (·.1)).getD 0) (thash P w k) (spot t (thash P w k) c) = some (.candidate (spot t (thash P w k) (c + q)).j i (spot t (thash P w k) (c + q + 1))) := by
        rw [← spot_on (c := c) (q := q), Nat.add_assoc, ← spot_on (c := c) (q := q + 1)]; exact e
      rw [e]
      dsimp only
      have tail : wpAny (model P w) A (searchRest a (.ref x) (thash P w k) false fuel es t (spot t (thash P w k) (c + q)).j i (spot t (thash P w k) (c + q + 1))) Q E s := by
        unfold searchRest
        rw [ent]
        dsimp only
        refine wpAny_bind (wpAny_holding ((tupleKind (intKind P w)).eqBool hu (R.tup p (List.mem_of_getElem? hp)) hx ?_))
        refine wpAny_bind (wpAny_setState_of ho hd R.fits ?_)
        dsimp only
        refine wp_if_neg (by simp) ?_
        try refine wpAny_bind (wpAny_pure ?_)
        rw [sameMem]
        dsimp only
        have slot : t.slot (spot t (thash P w k) (c + q)).j = .live i := by
          rcases slot_cases R.tab.ris R.tab.dm (spot t (thash P w k) (c + q)).j with ⟨z, _⟩ | ⟨i', h1, h2⟩
          · exact absurd (List.mem_of_getElem? hi) z
          · rw [h2, place_one R.tab.ris hi h1]
        rw [if_pos rfl, slot]
        dsimp only
        rw [ent]
        dsimp only
        refine wpAny_bind (PySem.wpAny_isSame_ref_self ?_)
        refine wpAny_bind (wpAny_pure ?_)
        simp only [if_true]
        by_cases same : p.2 = k
        · rw [if_pos (decide_eq_true same)]
          refine wpAny_pure (yes i ?_)
          rw [← same]
          exact List.mem_map_of_mem (List.mem_of_getElem? hp)
        · rw [if_neg (by simp [same])]
          refine ih _ (c + q + 1) (by omega) (by omega) rfl fun b i' p' hb h1 h2 => ?_
          rcases Nat.lt_or_ge b c with z | z
          · exact un b i' p' z h1 h2
          · rcases Nat.lt_or_ge b (c + q) with y | y
            · intro bad
              obtain ⟨d, rfl⟩ : ∃ d, b = c + d := ⟨b - c, by omega⟩
              refine others d i' (by omega) (by rw [spot_on]; exact h1) ?_
              show (es[i']?.map (·.1)).getD 0 = _
              rw [hashes i' p' h2, bad]
            · have : b = c + q := by omega
              subst this
              have := place_one R.tab.ris h1 hi
              subst this
              rw [hp] at h2
              cases h2
              exact same
      by_cases led : t.led = true
      · refine wp_if_neg (by rw [led]; decide) ?_
        try refine wpAny_bind (wpAny_pure ?_)
        exact tail
      · refine wp_if_pos (by simpa using led) ?_
        refine wpAny_bind (seen_tup hx (fun y hy => ?_) ?_)
        · obtain ⟨z, hz, rfl⟩ := List.mem_map.mp hy
          have hz : z ∈ es.toList := (Array.mem_toList_iff.mpr (Array.mem_filter.mp (Array.mem_toList_iff.mp hz)).1)
          rw [R.rows] at hz
          obtain ⟨p, hp, rfl⟩ := List.mem_map.mp hz
          exact ⟨p.2, p.1, rfl, R.tup p hp⟩
        · refine wp_if_neg (by simp) ?_
          try refine wpAny_bind (wpAny_pure ?_)
          exact tail
    · -- an empty slot: the key is not there
      have e : t.probe (fun i => (es[i]?.map (·.1)).getD 0) (thash P w k) (spot t (thash P w k) c) = some (.empty (spot t (thash P w k) last).j none) := by
        have z := e
        rw [spot_on, Nat.add_sub_cancel' hc] at z
        exact z
      rw [e]
      refine wpAny_pure (no _ fun bad => ?_)
      obtain ⟨i, at_⟩ := List.mem_iff_getElem?.mp bad
      rw [List.getElem?_map] at at_
      obtain ⟨p, hp', hk⟩ := Option.map_eq_some_iff.mp at_
      have pl : i < t.place.toList.length := by
        have h2 := R.tab.sz
        rw [List.length_map] at h2
        rw [Array.length_toList, h2]
        exact (List.getElem?_eq_some_iff.mp hp').1
      have hj := List.getElem?_eq_getElem pl
      obtain ⟨b, hb, eb⟩ := R.tab.before (h := thash P w k) (K := last) free (i := i) (j := t.place.toList[i]) (by rw [List.getElem?_map, hp', ← hk]; rfl) hj
      rcases Nat.lt_or_ge b c with z | z
      · exact un b i p z (by rw [hj, ← eb]) hp' hk
      · obtain ⟨d, rfl⟩ : ∃ d, b = c + d := ⟨b - c, by omega⟩
        refine others d i (by omega) (by rw [spot_on, hj, ← eb]) ?_
        show (es[i]?.map (·.1)).getD 0 = _
        rw [hashes i p hp', hk]
/-- a set of ours never asks for many turns -/
theorem turns_few (R : SetTR P w s.heap a L es ep t) : 10 * SetTable.turns t.mask < 100000 := by
  have m := R.tab.mok
  generalize t.mask = z at m
  rcases m with rfl | rfl | rfl <;> decide
/-- is it there? -/
theorem setT_find (R : SetTR P w s.heap a L es ep t) {x : Addr} {k : List Int} (hx : IsT P w s.heap k x) (hu : A.units < cLine) {Q : Option Nat → Shared → Prop}
    (q : ∀ r : Option Nat, r.isSome = decide (k ∈ L.map (·.2)) → Q r s) : wpAny (model P w) A (setFind a (.ref x) (thash P w k)) Q E s := by
  obtain ⟨o, ho, hex, hd⟩ := R.ob
  have few := R.room
  obtain ⟨last, bound, free, taken⟩ := R.tab.first (by rw [List.length_map]; omega) (thash P w k)
  have small : last < 100000 := Nat.lt_trans bound (turns_few R)
  unfold setFind setFindIn
  refine wpAny_bind (wpAny_setState_of ho hd R.fits ?_)
  dsimp only
  refine wp_if_neg (by simp [byScan, Value.scannable]) ?_
  try refine wpAny_bind (wpAny_pure ?_)
  unfold setSearch
  refine wpAny_bind (SetTR.hunt R hx hu bound free taken (fun i hi => ?_) (fun j hj => ?_) 100000 none 0 (by omega) (Nat.zero_le _) rfl fun b i p hb => absurd hb (Nat.not_lt_zero _))
  · exact wpAny_pure (q _ (by rw [decide_eq_true hi]; rfl))
  · exact wpAny_pure (q _ (by rw [decide_eq_false hj]; rfl))
/-- asked with the hash still to be taken -/
theorem setT_holds (R : SetTR P w s.heap a L es ep t) {x : Addr} {k : List Int} (hx : IsT P w s.heap k x) (hu : A.units < cLine) {Q : Bool → Shared → Prop} (q : ∀ n, Q (decide (k ∈ L.map (·.2))) { s with toks := n }) :
    wpAny (model P w) A (setContains a (.ref x)) Q E s := by
  unfold setContains
  refine wpAny_holding (wpAny_bind ((tupleKind (intKind P w)).pyHash hu hx (wpAny_bind ?_)))
  exact setT_find (s := { s with toks := s.toks + (tupleKind (intKind P w)).draws k }) R hx hu fun r e => wpAny_pure (by rw [e]; exact q _)
theorem setT_says (R : SetTR P w s.heap a L es ep t) {x : Addr} {k : List Int} (hx : IsT P w s.heap k x) (hu : A.units < cLine) {Q : PySem.Fin → Shared → Prop} (q : ∀ n, Q (.done (.ret (.bool (decide (k ∈ L.map (·.2)))))) { s with toks := n }) :
    wpAny (model P w) A (Builtin.«frozenset.__contains__» ⟨[.ref a, .ref x], []⟩) Q E s :=
  have e : Builtin.«frozenset.__contains__» ⟨[.ref a, .ref x], []⟩ = (do ret (.bool (← Builtin.Frozenset.withSetAsKey "frozenset.__contains__" (.ref x) (setContains a)))) := rfl
  e ▸ wpAny_bind (wpAny_tryCatch (setT_holds R hx hu fun n => wpAny_pure (q n)))
theorem setT_in (R : SetTR P w s.heap a L es ep t) {x : Addr} {k : List Int} (hx : IsT P w s.heap k x) (hu : A.units + 64 < cLine) {Q : Bool → Shared → Prop} (q : ∀ n, Q (decide (k ∈ L.map (·.2))) { s with toks := n }) :
    wpAny (model P w) A (contains (.ref a) (.ref x)) Q E s := by
  obtain ⟨o, ho, hex, _⟩ := R.ob
  have ty : s.TypeIs (.ref a) "set" := ⟨o, ho, hex.1⟩
  refine wpAny_contains_slot ty F.slot_set_contains (wpAny_call_entry F.slot_set_contains ty entry_set_contains (setT_says R hx ?_ fun n => ⟨_, rfl, wpAny_truthy_bool (q n)⟩) (F.args_set_contains_2 _ _))
  show A.units + 1 < cLine
  omega
end
/-- y (not) in the set at a -/
def rStIn (K : PySem.W.Frag) (P : Program) (w : World) (neg : Bool) : R2 := fun y x H Q => ∃ (a b : Addr) (L : List (Addr × List Int)) (k : List Int), x = V.ref a ∧ y = V.ref b ∧ Rd H a (SetTO P w a L) ∧ (∀ p ∈ L, SqT K H p.1 (p.2.map V.int)) ∧ SqT K H b (k.map V.int) ∧
  Q (V.bl (if neg then !decide (k ∈ L.map (·.2)) else decide (k ∈ L.map (·.2)))) H
section
variable {X : Cx} {pins : List (Addr × Obj)} {σ : L2.St} {H : Hp} {s : Shared}
theorem setTO_full {a : Addr} {L : List (Addr × List Int)} (I : Inv X pins σ H s) (h : Rd H a (SetTO X.prog X.w a L)) (hL : ∀ p ∈ L, SqT X.K H p.1 (p.2.map V.int)) : ∃ es ep t, SetTR X.prog X.w s.heap a L es ep t :=
  SetT0.full (show SetT0 X.prog X.w s.heap a L from (h.ok I.hok).1) fun p hp => I.isT (hL p hp)
theorem op_inSt (hu : X.A.units + 64 < cLine) : OpR X (compareOp .In) (rStIn X.K X.prog X.w false) := fun pins s σ H y x u v Q I ry rx h => by
  obtain ⟨a, b, L, k, rfl, rfl, hH, hL, hb, q⟩ := h
  obtain ⟨es, ep, t, R⟩ := setTO_full I hH hL
  cases rx; cases ry
  exact wpAny_bind (setT_in R (I.isT hb) hu fun n => wpAny_pure ⟨.bl _, H, I.tok _, rfl, q⟩)
theorem op_notInSt (hu : X.A.units + 64 < cLine) : OpR X (compareOp .NotIn) (rStIn X.K X.prog X.w true) := fun pins s σ H y x u v Q I ry rx h => by
  obtain ⟨a, b, L, k, rfl, rfl, hH, hL, hb, q⟩ := h
  obtain ⟨es, ep, t, R⟩ := setTO_full I hH hL
  cases rx; cases ry
  exact wpAny_bind (setT_in R (I.isT hb) hu fun n => wpAny_pure ⟨.bl _, H, I.tok _, rfl, q⟩)
end
end Bx

set_option Elab.async false
set_option linter.all false
set_option maxRecDepth 100000
set_option maxHeartbeats 1000000
/-! Subscripts, slices. -/
namespace Bx
open PySem L2

def kpos {κ : Type} [DecidableEq κ] : List κ → κ → Option Nat
  | [], _ => none
  | k' :: ks, k => if k' = k then some 0 else (kpos ks k).map (· + 1)
theorem valV_kpos {κ : Type} [DecidableEq κ] {k : κ} : ∀ {ks : List κ} {vs : List V}, ks.length = vs.length → valV (ks.zip vs) k = (kpos ks k).bind (vs[·]?)
  | [], [], _ => rfl
  | [], _ :: _, h => by cases h
  | _ :: _, [], h => by cases h
  | k' :: ks, v :: vs, h => by
    have ih := valV_kpos (k := k) (ks := ks) (vs := vs) (by simpa using h)
    unfold valV at ih ⊢
    unfold kpos
    rw [List.zip_cons_cons, List.find?_cons]
    by_cases e : k' = k
    · rw [if_pos e, decide_eq_true e]; rfl
    · rw [if_neg e, decide_eq_false e, ih]
      cases kpos ks k <;> rfl
theorem kpos_lt {κ : Type} [DecidableEq κ] {k : κ} : ∀ {ks : List κ} {j : Nat}, kpos ks k = some j → j < ks.length
  | [], _, h => by cases h
  | k' :: ks, j, h => by
    unfold kpos at h
    split at h
    · cases h; simp
    · obtain ⟨i, h1, rfl⟩ := Option.map_eq_some_iff.mp h
      have := kpos_lt h1
      rw [List.length_cons]; omega
def keyD : D → Option Key
  | .int i => some (.inl i)
  | .str x => some (.inr x)
  | _ => none
def keysD : List D → Option (List Key)
  | [] => some []
  | d :: ds => (keyD d).bind fun k => (keysD ds).map (k :: ·)
def tkeyD : D → Option (List Key)
  | .nd .tup _ xs => keysD xs
  | _ => none
/-- the keys of a dict stand before their values, and are what the kind says -/
def keysOk : List NestedKey → List D → Bool
  | [], [] => true
  | k :: ks, d :: _ :: xs => decide (tnkD d = some k) && keysOk ks xs
  | _, _ => false
def cpos : D → D → Option Nat
  | .nd k _ xs, y => match k with
    | .lst => (match y with | .int i => ixN xs.length i | _ => none)
    | .wl => (match y with | .int i => ixN xs.length i | _ => none)
    | .tup => (match y with | .int i => ixN xs.length i | _ => none)
    | .wt => (match y with | .int i => ixN xs.length i | _ => none)
    | .dk ks => (keyD y).bind (kpos ks)
    | .dt ks => (tkeyD y).bind (kpos ks)
    | .dn ks => if keysOk ks xs then (tnkD y).bind fun k => (kpos ks k).map (2 * · + 1) else none
    | .st _ => none
    | .ins _ _ => none
  | _, _ => none
def idxD : D → D → Option D
  | .str x, y => (match y with
    | .int i => if x.length ≤ lim then (atI x.cps.toList i).map fun c => .str ⟨#[c]⟩ else none
    | _ => none)
  | .nd k o xs, y => (cpos (.nd k o xs) y).bind (xs[·]?)
  | _, _ => none
/-- one item, frozen where it stands -/
def refD : D → D → Option (D × D)
  | .nd k o xs, y => (cpos (.nd k o xs) y).bind fun j => (xs[j]?).map fun d => (frz d, if o then .nd k o (xs.set j (frz d)) else .nd k o xs)
  | d, y => (idxD d y).map fun z => (z, d)

def rDIx : R2 := fun x y H Q => ∃ a v, x = V.ref a ∧ DGet H a y (some v) ∧ Q v H
def rIxA (K : PySem.W.Frag) (P : Program) (w : World) : R2 := fun x y H Q => rIx K x y H Q ∨ rDIx x y H Q ∨ rNIx K P w x y H Q
/-- the context's texts and the data's are the same -/
abbrev XC (X : Cx) (G : Gc) : Prop := (X.K, X.prog, X.w) = (G.K, G.P, G.w)
theorem ix_dict {X : Cx} (hu : X.A.units + 1 < cLine) : IxR X rDIx := by
  intro value slice pins s σ H x y v u Q I rx ry h hs
  obtain ⟨a, w, rfl, g, q⟩ := h
  cases rx
  exact PyProof.Rows.tail_any (dict_typeIs I g) PySem.F.slot_dict_getitem.lookup (d_getItem hu I g ry fun w' s3 I3 rw' => ⟨w, H, I3, rw', q⟩) hs
theorem ix_A {X : Cx} {G : Gc} (hu : X.A.units + 64 < cLine) (hk : XC X G) : IxR X (rIxA G.K G.P G.w) := fun a b pins s σ H x y v u Q I rx ry h hs => by
  obtain ⟨k1, k2⟩ := Prod.mk.inj hk
  obtain ⟨k2, k3⟩ := Prod.mk.inj k2
  rw [← k1, ← k2, ← k3] at h
  rcases h with h | h | h
  · exact ix_seq a b pins s σ H x y v u Q I rx ry h hs
  · exact ix_dict (by omega) a b pins s σ H x y v u Q I rx ry h hs
  · exact ix_ndict hu a b pins s σ H x y v u Q I rx ry h hs

section
variable {G : Gc} {Hs H : Hp}
theorem keyD_rp {v : V} {d : D} {f : Fp} {k : Key} (r : Rp G Hs H v d f) (h : keyD d = some k) : v = kV k := by
  cases d with
  | int i => cases h; exact r.toI
  | str x => cases h; exact r.toS
  | _ => cases h
theorem keysD_rps : ∀ {vs : List V} {ds : List D} {f : Fp} {ks : List Key}, Rps G Hs H vs ds f → keysD ds = some ks → vs = ks.map kV
  | _, _, _, _, .nil _, h => by cases h; rfl
  | _, _, _, ks, .cons (d := d) (ds := ds) r rs _, h => by
    unfold keysD at h
    obtain ⟨k, h1, h2⟩ := Option.bind_eq_some_iff.mp h
    obtain ⟨ks', h3, rfl⟩ := Option.map_eq_some_iff.mp h2
    rw [keyD_rp r h1, keysD_rps rs h3]; rfl
theorem tkeyD_rp {v : V} {d : D} {f : Fp} {ks : List Key} (s : Sm Hs H) (r : Rp G Hs H v d f) (h : tkeyD d = some ks) : ∃ b, v = .ref b ∧ H b = some (.tup (ks.map kV)) := by
  cases d with
  | nd k o xs =>
    cases k with
    | tup =>
      obtain ⟨a, vs, g, e, rs, _, at_⟩ := r.nd s
      refine ⟨a, e, ?_⟩
      rw [← keysD_rps rs h]
      rcases at_ with h | ⟨h, _⟩ | ⟨h, _⟩
      · exact h
      · exact sm_tup s h
      · cases h
    | _ => cases h
  | _ => cases h
theorem dk_rd' {a : Addr} {ks : List Key} {vs : List V} {o : Bool} (s : Sm Hs H) (h : AtR G Hs H a (.dk ks) vs o) : ks.length = vs.length ∧ Rd H a (.dK (ks.zip vs)) := by
  rcases h with h | ⟨h, _⟩ | ⟨h, _⟩
  · exact ⟨h.1.1, .inl h.2⟩
  · exact ⟨h.1.1, s.rd h.2⟩
  · cases h
theorem dt_rd' {a : Addr} {ks : List (List Key)} {vs : List V} {o : Bool} (s : Sm Hs H) (h : AtR G Hs H a (.dt ks) vs o) : ks.length = vs.length ∧ Rd H a (.dT (ks.zip vs)) := by
  rcases h with h | ⟨h, _⟩ | ⟨h, _⟩
  · exact ⟨h.1.1, .inl h.2⟩
  · exact ⟨h.1.1, s.rd h.2⟩
  · cases h
theorem dn_rd' {a : Addr} {ks : List NestedKey} {vs : List V} {o : Bool} (s : Sm Hs H) (h : AtR G Hs H a (.dn ks) vs o) : ∃ es : NEs, (es.map (·.1) = ks ∧ ks.Nodup ∧ es.flatMap (fun p => [p.2.1, p.2.2]) = vs) ∧ Rd H a (nDict G.P G.w a es) := by
  rcases h with ⟨es, h1, h2⟩ | ⟨⟨es, h1, h2⟩, _⟩ | ⟨h, _⟩
  · exact ⟨es, h1, .inl h2⟩
  · exact ⟨es, h1, s.rd h2⟩
  · cases h
theorem tnkD_rp {v : V} {d : D} {f : Fp} {k : NestedKey} (s : Sm Hs H) (r : Rp G Hs H v d f) (h : tnkD d = some k) : (∃ b, v = .ref b) ∧ NkV G.K H k v ∧ k.depth ≤ 8 := by
  unfold tnkD at h
  split at h
  · obtain ⟨k', h1, h2⟩ := Option.bind_eq_some_iff.mp h
    split at h2
    · rename_i hf
      cases h2
      obtain ⟨a, _, _, e, _⟩ := r.nd s
      exact ⟨⟨a, e⟩, r.nkv s h1, of_decide_eq_true hf⟩
    · cases h2
  · cases h
/-- the keys' tuples stand -/
theorem keysOk_all (s : Sm Hs H) : ∀ {es : NEs} {xs : List D} {f : Fp}, Rps G Hs H (es.flatMap fun p => [p.2.1, p.2.2]) xs f → keysOk (es.map (·.1)) xs = true → ∀ p ∈ es, NkV G.K H p.1 p.2.1 ∧ p.1.depth ≤ 8
  | [], _, _, _, _, p, hp => by cases hp
  | q :: es, xs, f, r, h, p, hp => by
    rw [List.flatMap_cons] at r
    cases r with
    | cons r1 rs _ =>
      cases rs with
      | cons r2 rs _ =>
        have h' : (decide (tnkD _ = some q.1) && keysOk (es.map (·.1)) _) = true := h
        rw [Bool.and_eq_true] at h'
        rcases List.mem_cons.mp hp with rfl | hp
        · exact (tnkD_rp s r1 (of_decide_eq_true h'.1)).2
        · exact keysOk_all s rs h'.2 p hp
theorem nAt_kpos {k : NestedKey} : ∀ {es : NEs}, nAt es k = ((kpos (es.map (·.1)) k).map (2 * · + 1)).bind ((es.flatMap fun p => [p.2.1, p.2.2])[·]?)
  | [] => rfl
  | p :: es => by
    have ih := nAt_kpos (k := k) (es := es)
    rw [List.map_cons, List.flatMap_cons]
    unfold kpos
    by_cases e : p.1 = k
    · rw [if_pos e, show nAt (p :: es) k = some p.2.2 by unfold nAt; rw [List.find?_cons, decide_eq_true e]; rfl]
      rfl
    · rw [if_neg e, show nAt (p :: es) k = nAt es k by unfold nAt; rw [List.find?_cons, decide_eq_false e], ih]
      cases kpos (es.map (·.1)) k with
      | none => rfl
      | some j =>
        show _ = ([p.2.1, p.2.2] ++ es.flatMap fun p => [p.2.1, p.2.2])[2 * (j + 1) + 1]?
        rw [List.getElem?_append_right (by simp; omega)]
        show (es.flatMap fun p => [p.2.1, p.2.2])[2 * j + 1]? = (es.flatMap fun p => [p.2.1, p.2.2])[2 * (j + 1) + 1 - 2]?
        congr 1
/-- what stands under a key -/
theorem ndGet {a : Addr} {vs : List V} {w : V} {o : Bool} {xs : List D} {ks : List NestedKey} {y : D} {g f : Fp} {k : NestedKey} (s : Sm Hs H) (at_ : AtR G Hs H a (.dn ks) vs o) (rs : Rps G Hs H vs xs f) (r2 : Rp G Hs H w y g) (hk : keysOk ks xs = true) (h : tnkD y = some k) :
    NGet G.K G.P G.w H a w (((kpos ks k).map (2 * · + 1)).bind (vs[·]?)) := by
  obtain ⟨es, ⟨rfl, _, rfl⟩, rd⟩ := dn_rd' s at_
  obtain ⟨⟨b, rfl⟩, hy⟩ := tnkD_rp s r2 h
  exact ⟨es, k, b, rd, rfl, hy, keysOk_all s rs hk, nAt_kpos.symm⟩
/-- an item is read -/
theorem ixCore {a : Addr} {vs : List V} {w : V} {k : Kd} {o : Bool} {xs : List D} {y : D} {g f : Fp} {j : Nat} (s : Sm Hs H) (at_ : AtR G Hs H a k vs o) (rs : Rps G Hs H vs xs f) (r2 : Rp G Hs H w y g) (h : cpos (.nd k o xs) y = some j) :
    ∀ u Q, vs[j]? = some u → Q u H → rIxA G.K G.P G.w (.ref a) w H Q := by
  intro u Q hu q
  have hl := rs.len
  unfold AtR at at_
  unfold cpos at h
  cases k with
  | lst =>
    have ha : H a = some (.lst vs) := by
      rcases at_ with h | ⟨h, _⟩ | ⟨h, _⟩
      · exact h
      · exact sm_lst s h
      · cases h
    dsimp only at h
    split at h
    · rw [r2.toI]
      exact .inl (.inl ⟨a, vs, _, u, rfl, rfl, SqL.of ha, by unfold atI; rw [hl, h]; exact hu, q⟩)
    · cases h
  | wl =>
    have ha : SqL G.K H a vs := by
      rcases at_ with h | ⟨h, _⟩ | ⟨_, h⟩
      · exact h
      · exact s.sqL h
      · exact h
    dsimp only at h
    split at h
    · rw [r2.toI]
      exact .inl (.inl ⟨a, vs, _, u, rfl, rfl, ha, by unfold atI; rw [hl, h]; exact hu, q⟩)
    · cases h
  | tup =>
    have ha : H a = some (.tup vs) := by
      rcases at_ with h | ⟨h, _⟩ | ⟨h, _⟩
      · exact h
      · exact sm_tup s h
      · cases h
    dsimp only at h
    split at h
    · rw [r2.toI]
      exact .inl (.inr (.inl ⟨a, vs, _, u, rfl, rfl, SqT.of ha, by unfold atI; rw [hl, h]; exact hu, q⟩))
    · cases h
  | wt =>
    have ha : SqT G.K H a vs := by
      rcases at_ with h | ⟨h, _⟩ | ⟨_, h⟩
      · exact h
      · exact s.sqT h
      · exact h
    dsimp only at h
    split at h
    · rw [r2.toI]
      exact .inl (.inr (.inl ⟨a, vs, _, u, rfl, rfl, ha, by unfold atI; rw [hl, h]; exact hu, q⟩))
    · cases h
  | dk ks =>
    obtain ⟨hk, rd⟩ := dk_rd' s at_
    obtain ⟨k, h1, h2⟩ := Option.bind_eq_some_iff.mp h
    exact .inr (.inl ⟨a, u, rfl, .inl ⟨_, k, rd, keyD_rp r2 h1, by rw [valV_kpos hk, h2]; exact hu.symm⟩, q⟩)
  | dt ks =>
    obtain ⟨hk, rd⟩ := dt_rd' s at_
    obtain ⟨k, h1, h2⟩ := Option.bind_eq_some_iff.mp h
    obtain ⟨b, e2, hb⟩ := tkeyD_rp s r2 h1
    exact .inr (.inl ⟨a, u, rfl, .inr ⟨_, k, b, rd, e2, hb, by rw [valV_kpos hk, h2]; exact hu.symm⟩, q⟩)
  | dn ks =>
    dsimp only at h
    split at h
    · rename_i hk
      obtain ⟨k, h1, h2⟩ := Option.bind_eq_some_iff.mp h
      have g := ndGet s at_ rs r2 hk h1
      rw [h2] at g
      exact .inr (.inr ⟨a, u, rfl, by rw [← hu]; exact g, q⟩)
    · cases h
  | st ks => cases h
  | ins c fn => cases h
theorem rps_frzAt : ∀ {vs : List V} {ds : List D} {f : Fp} {i : Nat} {d : D}, Rps G Hs H vs ds f → ds[i]? = some d →
    ∃ (v : V) (g1 g2 : Fp), vs[i]? = some v ∧ Rp G Hs H v d g1 ∧ (∀ b, f b = g1 b + g2 b) ∧ ∀ Hs', Same Hs Hs' → (∀ b, g1 b ≠ 0 → Hs' b = H b) → (∀ b, g2 b ≠ 0 → Hs' b = none) → Rps G Hs' H vs (ds.set i (frz d)) g2
  | _, _, _, i, _, .nil _, h => by simp at h
  | _, _, _, 0, _, .cons (f := f1) (g := g1) r rs e, h => by
    simp at h; subst h
    exact ⟨_, f1, g1, rfl, r, e, fun Hs' s k1 k2 => .cons (r.frz s (f0 := f0) (fun _ => rfl) k1) (rs.mono s fun b hb => ⟨rfl, k2 b hb⟩) fun b => (Nat.zero_add _).symm⟩
  | _, _, _, i + 1, _, .cons (f := f1) (g := g1) r rs e, h => by
    obtain ⟨v, a1, a2, h1, h2, h3, h4⟩ := rps_frzAt rs (i := i) (by simpa using h)
    refine ⟨v, a1, fun b => f1 b + a2 b, by simpa using h1, h2, fun b => by rw [e b, h3 b]; show _ = a1 b + (f1 b + a2 b); omega, fun Hs' s k1 k2 => ?_⟩
    exact .cons (r.mono s fun b hb => ⟨rfl, k2 b (by show f1 b + a2 b ≠ 0; omega)⟩) (h4 Hs' s k1 fun b hb => k2 b (by show f1 b + a2 b ≠ 0; omega)) fun b => rfl
/-- one item of a node is frozen -/
theorem Ok.itemFrz {C : Cc} {Hs H : Hp} {σ : L2.St} {e : En} {fe f1 : Fp} {P : Addr → Prop} {k : Kd} {o : Bool} {xs : List D} {v : V} {j : Nat} {x : D} (ok : Ok C Hs H σ e fe f1 P) (r : Rp C.toGc Hs H v (.nd k o xs) f1) (h : xs[j]? = some x) :
    ∃ a vs u Hs' f1', v = .ref a ∧ AtR C.toGc Hs H a k vs o ∧ (∃ g, Rps C.toGc Hs H vs xs g) ∧ vs[j]? = some u ∧ Aft Hs H Hs' H P ∧ Ok C Hs' H σ e fe f1' P ∧ Rp C.toGc Hs' H u (frz x) f0 ∧ Rp C.toGc Hs' H v (if o then .nd k o (xs.set j (frz x)) else .nd k o xs) f1' := by
  cases r with
  | @sh a _ vs _ _ h1 rs z =>
    obtain ⟨u, g1, g2, hu, ru, eg, _⟩ := rs.get h
    have zg : ∀ b, g1 b = 0 := fun b => by have := eg b; have := z b; omega
    exact ⟨a, vs, u, Hs, f1, rfl, .sh ok.sm h1, ⟨_, rs⟩, hu, Aft.refl _ _ _, ok, ru.frz (Same.refl _) (fun _ => rfl) fun b hb => absurd (zg b) hb, .sh h1 rs z⟩
  | @own a _ vs _ f _ h1 w n rs e1 =>
    obtain ⟨u, g1, g2, hu, ru, eg, k⟩ := rps_frzAt rs h
    have ok' : Ok C Hs H σ e fe (fun b => g1 b + (g2 b + if b = a then 1 else 0)) P := ok.fps (fun _ => rfl) fun b => by rw [e1 b, eg b]; omega
    obtain ⟨Hs', af, ok2, he⟩ := ok'.fz
    have k1 : ∀ b, g1 b ≠ 0 → Hs' b = H b := fun b hb => by rw [he b, if_pos hb]
    have k2 : ∀ b, g2 b + (if b = a then 1 else 0) ≠ 0 → Hs' b = none := fun b hb => by
      have := ok'.wf.one b
      rw [he b, if_neg (by omega)]
      exact ok'.wf.own b (by omega)
    refine ⟨a, vs, u, Hs', _, rfl, .inl h1, ⟨_, rs⟩, hu, af, ok2, ru.frz af.sh (fun _ => rfl) k1, ?_⟩
    rw [if_pos rfl]
    exact .own h1 w (k2 a (by rw [if_pos rfl]; omega)) (k Hs' af.sh k1 fun b hb => k2 b (by omega)) fun b => rfl
theorem idxS : OpS G (rIxA G.K G.P G.w) idxD := by
  intro Hs H v1 v2 d1 d2 z Q s r1 r2 hz q
  unfold idxD at hz
  split at hz
  · split at hz
    · split at hz
      · rename_i h
        obtain ⟨c, h1, rfl⟩ := Option.map_eq_some_iff.mp hz
        rw [r1.toS, r2.toI]
        exact .inl (.inr (.inr ⟨_, _, c, rfl, rfl, lim_le h, h1, res0 s q (r_str _)⟩))
      · cases hz
    · cases hz
  · obtain ⟨j, h1, h2⟩ := Option.bind_eq_some_iff.mp hz
    obtain ⟨a, vs, f', rfl, rs, le, at_⟩ := r1.nd s
    obtain ⟨u, hu, ru⟩ := (rs.z le).at h2
    exact ixCore s at_ rs r2 h1 u Q hu (res0 s q ru)
  · cases hz
end

/-- x[y], x a slot's name: the slot stays as it is, the item is frozen there -/
def eIxN (i : Nat) (b : FE) : FE := fun e => match e.sl[i]? with
  | some (some _) => (b e).bind fun y e1 => match e1.sl[i]? with
    | some (some d) => .opt ((refD d (frz y)).map (·.1)) (match refD d (frz y) with | some (_, d') => { e1 with sl := e1.sl.set i (some d') } | none => e1)
    | _ => .bad
  | _ => .bad
section
variable {X : Cx} {C : Cc} {W : WX} {pos : Pos} {a b c : Expr} {es : List Expr} {Fa Fb Fc : FE} {As : FA}
theorem be_ix (hu : X.A.units + 64 < cLine) (hk : XC X C.toGc) (ha : BE X C W a Fa) (hb : BE X C W b Fb) (hs : PlainIx b) : BE X C W (.Subscript a b pos) (eBin idxD Fa Fb) :=
  (pe_ix (ix_A hu hk) ha hb hs).imp fun σ H Q ⟨e, Hs, fe, P, ok, q⟩ => by
    refine firstE ok q.bind fun d1 e1 v1 Hs1 H1 fe1 fv1 a1 ok1 r1 q1 => ?_
    refine bindE ok1 (.rp r1) (q1.shift a1).bind fun d2 e2 v2 Hs2 H2 fe2 fv2 a2 ok2 r1 r2 q2 => ?_
    obtain ⟨Hs3, a3, ok3, r1', r2'⟩ := ok2.frzX r1 (.rp r2)
    obtain ⟨Hs4, a4, ok4, r2'', r1''⟩ := (ok3.fps (fun _ => rfl) (fx' := fun b => fv2 b + f0 b) fun _ => rfl).frzX r2' (.rp r1')
    have q3 := (q2.shift (a2.weak fun b hb => .inl hb)).shift (a3.trans a4)
    cases hz : idxD (frz d1) (frz d2) with
    | none => rw [hz] at q3; exact q3.elim
    | some z =>
      rw [hz] at q3
      exact idxS (G := C.toGc) ok4.sm r1'' r2'' hz fun v Hs5 H5 fv n rz => q3 v Hs5 H5 fe2 fv (n.aft ok4) ((ok4.new n fun _ h => absurd rfl h).fps (fun _ => rfl) fun _ => (Nat.zero_add _).symm) rz
/-- a slot's data changed in place to data with less that is owned -/
theorem Ok.slot {Hs H : Hp} {σ : L2.St} {e : En} {fe fx : Fp} {P : Addr → Prop} {i : Nat} {d : D} (ok : Ok C Hs H σ e fe fx P) (h1 : e.sl[i]? = some (some d)) :
    ∃ (v : V) (f1 f2 : Fp), σ[i]? = some (some v) ∧ Rp C.toGc Hs H v d f1 ∧ (∀ b, fe b = f1 b + f2 b) ∧ Ok C Hs H σ { e with sl := e.sl.set i none } f2 (fun b => f1 b + fx b) P ∧
      ∀ {Hs' H' : Hp} {f1' : Fp} {d' : D} {e' : En} {fx' : Fp}, Ok C Hs' H' σ { e' with sl := e.sl.set i none } f2 (fun b => f1' b + fx' b) P → Rp C.toGc Hs' H' v d' f1' → Ok C Hs' H' σ { e' with sl := e.sl.set i (some d') } (fun b => f1' b + f2 b) fx' P := by
  obtain ⟨v, f1, f2, e1, r1, e2, s2⟩ := ok.sl.get h1
  have hi : i < e.sl.length := (List.getElem?_eq_some_iff.mp h1).1
  refine ⟨v, f1, f2, e1, r1, e2, ⟨⟨ok.wf.sm, fun b => by have := ok.wf.one b; have := e2 b; omega, fun b hb => ok.wf.own b (by have := e2 b; omega), fun b hb => by have := ok.wf.apart b hb; have := e2 b; omega, ok.wf.live⟩, s2, ok.pn, ok.ex⟩, ?_⟩
  intro Hs' H' f1' d' e' fx' ok' r'
  have s3 := ok'.sl.put (i := i) (h := fun b => f1' b + f2 b) (by rw [List.getElem?_set_self hi]) r' fun b => rfl
  rw [List.set_set] at s3
  have e4 : σ.set i (some v) = σ := by
    obtain ⟨hl, hv⟩ := List.getElem?_eq_some_iff.mp e1
    rw [← hv]; exact List.set_getElem_self hl
  rw [e4] at s3
  exact ⟨⟨ok'.wf.sm, fun b => by have := ok'.wf.one b; omega, fun b hb => ok'.wf.own b (by omega), fun b hb => by have := ok'.wf.apart b hb; omega, ok'.wf.live⟩, s3, ok'.pn, ok'.ex⟩
theorem be_ixN {i : Nat} (hu : X.A.units + 64 < cLine) (hk : XC X C.toGc) (ha : PE X a (tVar i)) (hb : BE X C W b Fb) (hs : PlainIx b) : BE X C W (.Subscript a b pos) (eIxN i Fb) :=
  (pe_ix (ix_A hu hk) ha hb hs).imp fun σ H Q ⟨e, Hs, fe, P, ok, q⟩ => by
    unfold eIxN at q
    cases h1 : e.sl[i]? with
    | none => rw [h1] at q; exact q.elim
    | some o =>
      cases o with
      | none => rw [h1] at q; exact q.elim
      | some d0 =>
        rw [h1] at q
        obtain ⟨v0, _, _, e1, _⟩ := ok.sl.get h1
        refine ⟨v0, e1, ?_⟩
        refine firstE ok (EndE.bind q) fun y e2 v2 Hs2 H2 fe2 fv2 a2 ok2 r2 q2 => ?_
        obtain ⟨Hs3, a3, ok3, r2', _⟩ := (ok2.fps (fun _ => rfl) (fx' := fun b => fv2 b + f0 b) fun _ => rfl).frzX r2 Held.tr
        have q3 := q2.shift (a2.trans a3)
        cases h2 : e2.sl[i]? with
        | none => rw [h2] at q3; exact q3.elim
        | some o =>
          cases o with
          | none => rw [h2] at q3; exact q3.elim
          | some d =>
            rw [h2] at q3
            dsimp only at q3
            cases hz : refD d (frz y) with
            | none => rw [hz] at q3; exact q3.elim
            | some zd =>
              obtain ⟨z, d'⟩ := zd
              rw [hz] at q3
              obtain ⟨v, f1, f2, e3, r1, e4, ok4, put⟩ := ok3.slot h2
              rw [e1] at e3; cases e3
              have simple : (idxD d (frz y)).map (fun z => (z, d)) = some (z, d') → (∀ k o xs, d ≠ .nd k o xs) → rIxA C.K C.P C.w v0 v2 H2 Q := fun h hn => by
                obtain ⟨z', h3, h4⟩ := Option.map_eq_some_iff.mp h
                cases h4
                have hd : d.sc = true := by cases d <;> first | rfl | exact absurd rfl (hn _ _ _)
                refine idxS (G := C.toGc) ok3.sm (r1.f0 hd) r2' h3 fun v Hs5 H5 fv n rz => ?_
                have e5 : { e2 with sl := e2.sl.set i (some d) } = e2 := by
                  have : e2.sl.set i (some d) = e2.sl := by
                    obtain ⟨hl, hv⟩ := List.getElem?_eq_some_iff.mp h2
                    rw [← hv]; exact List.set_getElem_self hl
                  rw [this]
                exact q3 v Hs5 H5 fe2 fv (n.aft ok3) (by
                  show Ok C Hs5 H5 σ { e2 with sl := e2.sl.set i (some d) } fe2 fv P
                  rw [e5]
                  exact (ok3.new n fun _ h => absurd rfl h).fps (fun _ => rfl) fun _ => (Nat.zero_add _).symm) rz
              cases d with
              | nd k o xs =>
                unfold refD at hz
                obtain ⟨j, h3, h4⟩ := Option.bind_eq_some_iff.mp hz
                obtain ⟨x, h5, h6⟩ := Option.map_eq_some_iff.mp h4
                cases h6
                have ok4' : Ok C Hs3 H2 σ { e2 with sl := e2.sl.set i none } f2 f1 P := ok4.fps (fun _ => rfl) fun b => rfl
                obtain ⟨a, vs, u, Hs4, f1', rfl, at_, ⟨_, hl⟩, hu', af, ok5, ru, rn⟩ := ok4'.itemFrz r1 h5
                refine ixCore (G := C.toGc) ok3.sm at_ hl r2' h3 u Q hu' ?_
                exact q3 u Hs4 H2 _ f0 af (put (e' := e2) (ok5.fps (fun _ => rfl) fun b => rfl) rn) ru
              | non => exact simple hz (fun _ _ _ h => by cases h)
              | bl _ => exact simple hz (fun _ _ _ h => by cases h)
              | int _ => exact simple hz (fun _ _ _ h => by cases h)
              | str _ => exact simple hz (fun _ _ _ h => by cases h)
              | ty _ => exact simple hz (fun _ _ _ h => by cases h)
end
end Bx

set_option Elab.async false
set_option linter.all false
set_option maxRecDepth 100000
set_option maxHeartbeats 1000000
/-! Statements. -/
namespace Bx
open PySem L2

def En.put (e : En) (i : Nat) (d : D) : En := { e with sl := e.sl.set i (some d) }
def En.del (e : En) (i : Nat) : En := { e with sl := e.sl.set i none }
/-- targets -/
abbrev FG := D → En → Option En
/-- two frames that differ at ts alone -/
def Tch (ts : List Nat) (σ σ' : L2.St) : Prop := σ'.length = σ.length ∧ ∀ i, i ∉ ts → σ'[i]? = σ[i]?
def canG (C : Cc) (ts : List Nat) (g : FG) : TG := fun v σ H Q => ∃ e Hs fe fv P d e', Ok C Hs H σ e fe fv P ∧ Rp C.toGc Hs H v d fv ∧ g d e = some e' ∧ ∀ σ' Hs' H' fe', Tch ts σ σ' → Aft Hs H Hs' H' P → Ok C Hs' H' σ' e' fe' f0 P → Q σ' H'
def BG (X : Cx) (C : Cc) (tg : Expr) (ts : List Nat) (g : FG) : Prop := PG X tg (canG C ts g)
theorem _root_.L2.PG.imp {X : Cx} {e : Expr} {t t' : TG} (h : PG X e t) (i : ∀ v σ H Q, t' v σ H Q → t v σ H Q) : PG X e t' := ⟨fun pins s σ H v u Q I r q => h.run pins s σ H v u Q I r (i _ _ _ _ q)⟩
def gN (i : Nat) : FG := fun d e => if i < e.sl.length then some (e.put i d) else none
def npin (C : Cc) (i : Nat) : Prop := ∀ p ∈ C.pins, p.1 ≠ i

def fSeq (s t : FS) : FS := fun e => match s e with
  | .nx e1 => t e1
  | r => r
def fNext : FS := fun e => .nx e
def fAsg (g : FG) (a : FE) : FS := fun e => (a e).toS fun d e1 => match g d e1 with
  | some e2 => .nx e2
  | none => .bad
def fIf (c : FT) (t u : FS) : FS := fun e => (c e).toS fun k e1 => if k then t e1 else u e1
def fRet (a : FE) : FS := fun e => (a e).toS fun d e1 => .rt d e1
def fRetN : FS := fun e => .rt .non e
/-- return x: the slot is given away -/
def fRetV (i : Nat) : FS := fun e => match e.sl[i]? with
  | some (some d) => .rt d (e.del i)
  | _ => .bad
def fExpr (a : FE) : FS := fun e => (a e).toS fun _ e1 => .nx e1
def fBreak : FS := fun e => .bk e
def fCont : FS := fun e => .ct e

section
variable {X : Cx} {C : Cc} {W : WX} {pos : Pos} {a b c : Expr} {es : List Expr} {Fa Fb Fc : FE} {Ta : FT} {As : FA} {st : Stmt} {sts : List Stmt} {S T : FS}
/-- a value goes into a slot -/
theorem Ok.put {Hs H : Hp} {σ : L2.St} {e : En} {fe fv fx : Fp} {P : Addr → Prop} {i : Nat} {v : V} {d : D} (ok : Ok C Hs H σ e fe (fun b => fv b + fx b) P) (r : Rp C.toGc Hs H v d fv) (hi : i < e.sl.length) (hp : npin C i) :
    ∃ fe', Ok C Hs H (σ.set i (some v)) (e.put i d) fe' fx P := by
  obtain ⟨f1, f2, h1, s2⟩ := ok.sl.forget i
  have s3 := s2.put (i := i) (h := fun b => fv b + f2 b) (by rw [List.getElem?_set_self hi]) r fun b => rfl
  rw [List.set_set] at s3
  refine ⟨fun b => fv b + f2 b, ⟨ok.wf.sm, fun b => by have := ok.wf.one b; have := h1 b; omega, fun b hb => ok.wf.own b (by have := h1 b; omega), fun b hb => by have := ok.wf.apart b hb; have := h1 b; omega, ok.wf.live⟩, s3, fun p hpp => ?_, ok.ex⟩
  rw [List.getElem?_set_ne (Ne.symm (hp p hpp))]
  exact ok.pn p hpp
theorem Ok.del {Hs H : Hp} {σ : L2.St} {e : En} {fe fx : Fp} {P : Addr → Prop} (i : Nat) (ok : Ok C Hs H σ e fe fx P) : ∃ fe', Ok C Hs H σ (e.del i) fe' fx P := by
  obtain ⟨f1, f2, h1, s2⟩ := ok.sl.forget i
  exact ⟨f2, ⟨ok.wf.sm, fun b => by have := ok.wf.one b; have := h1 b; omega, fun b hb => ok.wf.own b (by have := h1 b; omega), fun b hb => by have := ok.wf.apart b hb; have := h1 b; omega, ok.wf.live⟩, s2, ok.pn, ok.ex⟩
theorem bg_name {i : Nat} (h : PG X a (gName i)) (hp : npin C i) : BG X C a [i] (gN i) := h.imp fun v σ H Q ⟨e, Hs, fe, fv, P, d, e', ok, r, hg, k⟩ => by
  unfold gN at hg
  split at hg
  · rename_i hi
    cases hg
    obtain ⟨fe', ok'⟩ := (ok.fps (fun _ => rfl) (fx' := fun b => fv b + f0 b) fun _ => rfl).put r hi hp
    exact k _ Hs H fe' ⟨List.length_set, fun j hj => List.getElem?_set_ne fun z => hj (List.mem_singleton.mpr z.symm)⟩ (Aft.refl _ _ _) ok'
  · cases hg
theorem bs_asg {tg : Expr} {ts : List Nat} {g : FG} (hp : ∀ te gg, PE X a te → PG X tg gg → PS X st (tAsg te gg)) (ha : BE X C W a Fa) (hg : BG X C tg ts g) : BS X C W st (fAsg g Fa) :=
  (hp _ _ ha hg).imp fun N σ H ⟨e, Hs, fe, P, ok, q⟩ => by
    refine firstE ok (q.bind σ) fun d e1 v Hs1 H1 fe1 fv1 a1 ok1 r1 q1 => ?_
    cases h : g d e1 with
    | none => rw [h] at q1; exact q1.elim
    | some e2 =>
      rw [h] at q1
      exact ⟨e1, Hs1, fe1, fv1, P, d, e2, ok1, r1, h, fun σ' Hs' H' fe' _ a2 ok2 => q1 σ' Hs' H' fe' (a1.trans a2) ok2⟩
theorem bs_set {i : Nat} {x : Str} {pos' : Pos} (hN : X.N.Nodup) (hi : X.N[i]? = some x) (hl : Loc X.env.scope x) (hp : npin C i) (ha : BE X C W a Fa)
    (hs : swapsWith a (some (.Name x pos')) pos.line X.env = pure false) (hf : X.fn x = true ∨ X.env.scope.names.lookup x = some .local) : BS X C W (.Assign [.Name x pos'] a pos) (fAsg (gN i) Fa) :=
  (ps_set hN hi hl ha hs hf).imp fun N σ H ⟨e, Hs, fe, P, ok, q⟩ => by
    refine firstE ok (q.bind σ) fun d e1 v Hs1 H1 fe1 fv1 a1 ok1 r1 q1 => ?_
    unfold gN at q1
    by_cases hi : i < e1.sl.length
    · rw [if_pos hi] at q1
      obtain ⟨fe', ok'⟩ := (ok1.fps (fun _ => rfl) (fx' := fun b => fv1 b + f0 b) fun _ => rfl).put r1 hi hp
      exact q1 _ Hs1 H1 fe' a1 ok'
    · rw [if_neg hi] at q1; exact q1.elim
theorem bs_if {sts' : List Stmt} (hc : BT X C W c Ta) (h1 : BSs X C W sts S) (h2 : BSs X C W sts' T) : BS X C W (.If c sts sts' pos) (fIf Ta S T) :=
  (ps_if hc h1 h2).imp fun N σ H ⟨e, Hs, fe, P, ok, q⟩ => by
    refine firstT ok (q.bind σ) fun k e1 Hs1 H1 fe1 a1 ok1 q1 => ?_
    cases k with
    | true => exact iteT ⟨e1, Hs1, fe1, P, ok1, q1.shift a1⟩
    | false => exact iteF ⟨e1, Hs1, fe1, P, ok1, q1.shift a1⟩
theorem bss_nil : BSs X C W [] fNext := pss_nil.imp fun N σ H ⟨e, Hs, fe, P, ok, q⟩ => q σ Hs H fe (Aft.refl _ _ _) ok
theorem bss_one (h : BS X C W st S) : BSs X C W [st] S := pss_one h
theorem bss_cons (h : BS X C W st S) (h2 : BSs X C W sts T) : BSs X C W (st :: sts) (fSeq S T) :=
  (pss_cons h h2).imp fun N σ H ⟨e, Hs, fe, P, ok, q⟩ => by
    refine ⟨e, Hs, fe, P, ok, ?_⟩
    unfold fSeq at q
    generalize S e = r at q ⊢
    cases r with
    | nx e1 => exact fun σ' Hs' H' fe' a1 ok1 => ⟨e1, Hs', fe', P, ok1, q.shift a1⟩
    | bad => exact q
    | bk e1 => exact q
    | ct e1 => exact q
    | rt d e1 => exact q
    | exc x e1 => exact q
theorem bs_ret (ha : BE X C W a Fa) : BS X C W (.Return (some a) pos) (fRet Fa) :=
  (ps_ret ha).imp fun N σ H ⟨e, Hs, fe, P, ok, q⟩ => by
    refine firstE ok (q.bind σ) fun d e1 v Hs1 H1 fe1 fv1 a1 ok1 r1 q1 => ?_
    exact q1 v σ Hs1 H1 fe1 fv1 a1 ok1 r1
theorem bs_retN : BS X C W (.Return none pos) fRetN :=
  ps_retN.imp fun N σ H ⟨e, Hs, fe, P, ok, q⟩ => q .non σ Hs H fe f0 (Aft.refl _ _ _) ok r_non
theorem bs_retV {i : Nat} (ha : PE X a (tVar i)) : BS X C W (.Return (some a) pos) (fRetV i) :=
  (ps_ret ha).imp fun N σ H ⟨e, Hs, fe, P, ok, q⟩ => by
    unfold fRetV at q
    cases h1 : e.sl[i]? with
    | none => rw [h1] at q; exact q.elim
    | some o =>
      cases o with
      | none => rw [h1] at q; exact q.elim
      | some d =>
        rw [h1] at q
        obtain ⟨v, f1, f2, e1, r1, e2, ok', _⟩ := ok.slot h1
        exact ⟨v, e1, q v σ Hs H f2 f1 (Aft.refl _ _ _) (ok'.fps (fun _ => rfl) fun b => rfl) r1⟩
theorem bs_expr (ha : BE X C W a Fa) (hs : swapsWith a none pos.line X.env = pure false) : BS X C W (.Expr a pos) (fExpr Fa) :=
  (ps_expr ha hs).imp fun N σ H ⟨e, Hs, fe, P, ok, q⟩ => by
    refine firstE ok (q.bind σ) fun d e1 v Hs1 H1 fe1 fv1 a1 ok1 r1 q1 => ?_
    exact q1 σ Hs1 H1 fe1 a1 (ok1.less fun _ => Nat.zero_le _)
theorem bs_pass : BS X C W (.Pass pos) fNext := ps_pass.imp fun N σ H ⟨e, Hs, fe, P, ok, q⟩ => q σ Hs H fe (Aft.refl _ _ _) ok
theorem bs_break : BS X C W (.Break pos) fBreak := ps_break.imp fun N σ H ⟨e, Hs, fe, P, ok, q⟩ => q σ Hs H fe (Aft.refl _ _ _) ok
theorem bs_cont : BS X C W (.Continue pos) fCont := ps_continue.imp fun N σ H ⟨e, Hs, fe, P, ok, q⟩ => q σ Hs H fe (Aft.refl _ _ _) ok
end

/-! ### a, b = .. -/
abbrev FGs := List D → En → Option En
def gsNil : FGs := fun ds e => match ds with
  | [] => some e
  | _ => none
def gsCons (g : FG) (r : FGs) : FGs := fun ds e => match ds with
  | d :: ds => (g d e).bind (r ds)
  | [] => none
def gT (n : Nat) (r : FGs) : FG := fun d e => match frz d with
  | .nd .tup _ xs => if xs.length = n then r xs e else none
  | .nd .wt _ xs => if xs.length = n then r xs e else none
  | _ => none
def canGs (C : Cc) (ts : List Nat) (g : FGs) : TGs := fun vs σ H Q => ∃ e Hs fe P ds e', Ok C Hs H σ e fe f0 P ∧ Rps C.toGc Hs H vs ds f0 ∧ g ds e = some e' ∧ ∀ σ' Hs' H' fe', Tch ts σ σ' → Aft Hs H Hs' H' P → Ok C Hs' H' σ' e' fe' f0 P → Q σ' H'
def BGs (X : Cx) (C : Cc) (tg : List Expr) (ts : List Nat) (g : FGs) : Prop := PGs X tg (canGs C ts g)
theorem _root_.L2.PGs.imp {X : Cx} {e : List Expr} {t t' : TGs} (h : PGs X e t) (i : ∀ v σ H Q, t' v σ H Q → t v σ H Q) : PGs X e t' := ⟨fun pins s σ H v u Q I r q => h.run pins s σ H v u Q I r (i _ _ _ _ q)⟩
section
variable {X : Cx} {C : Cc} {W : WX} {pos : Pos} {a : Expr} {es : List Expr} {g : FG} {gs : FGs}
theorem bgs_nil : BGs X C [] [] gsNil := pgs_nil.imp fun vs σ H Q ⟨e, Hs, fe, P, ds, e', ok, r, hg, k⟩ => by
  cases r with
  | nil z => cases hg; exact ⟨rfl, k σ Hs H fe ⟨rfl, fun _ _ => rfl⟩ (Aft.refl _ _ _) ok⟩
  | cons r rs q => cases hg
theorem bgs_cons {ts us : List Nat} (hg : BG X C a ts g) (hs : BGs X C es us gs) (he : (assignEach (a :: es) X.env).map (·.2) = assign a X.env :: (assignEach es X.env).map (·.2)) : BGs X C (a :: es) (ts ++ us) (gsCons g gs) :=
  (pgs_cons hg hs he).imp fun vs σ H Q ⟨e, Hs, fe, P, ds, e', ok, r, hg, k⟩ => by
    cases r with
    | nil z => cases hg
    | @cons v d f vs ds g' _ r rs q =>
      obtain ⟨e1, h1, h2⟩ := Option.bind_eq_some_iff.mp hg
      have hf : ∀ b, f b = 0 := fun b => by have := q b; simp only [f0] at this; omega
      have hg' : ∀ b, g' b = 0 := fun b => by have := q b; simp only [f0] at this; omega
      refine ⟨v, vs, rfl, e, Hs, fe, f0, P, d, e1, ok, r.fp fun b => (hf b).symm, h1, fun σ1 Hs1 H1 fe1 t1 a1 ok1 => ?_⟩
      exact ⟨e1, Hs1, fe1, P, ds, e', ok1, (rs.mono (H' := H1) a1.sh fun b hb => absurd (hg' b) hb).fp fun b => (hg' b).symm, h2, fun σ' Hs' H' fe' t2 a2 ok2 => k σ' Hs' H' fe' ⟨t2.1.trans t1.1, fun i hi => (t2.2 i fun z => hi (List.mem_append_right _ z)).trans (t1.2 i fun z => hi (List.mem_append_left _ z))⟩ (a1.trans a2) ok2⟩
theorem bg_tup {n kk : Nat} {ts : List Nat} (hc : X.calm = true) (hk : X.K = C.K) (hs : BGs X C es ts gs) (h1 : (assignEach es X.env).length = n) (h2 : (assignEach es X.env).findIdx? (·.1) = none) : BG X C (.Tuple es kk pos) ts (gT n gs) :=
  (pg_tup hc hs h1 h2).imp fun v σ H Q ⟨e, Hs, fe, fv, P, d, e', ok, r, hg, k⟩ => by
    obtain ⟨Hs1, a1, ok1, r1, _⟩ := (ok.fps (fun _ => rfl) (fx' := fun b => fv b + f0 b) fun _ => rfl).freeze r
    unfold gT at hg
    have main : ∀ (b : Bool) xs, (frz d).seq = some (b, xs) → b = false → xs.length = n → gs xs e = some e' → gTup X.K n (canGs C ts gs) v σ H Q := fun b xs hsq hb hl hx => by
      obtain ⟨p, vs, g', rfl, _, hT, rs, le⟩ := r1.seq ok1.sm hsq
      refine ⟨p, vs, rfl, by rw [hk]; exact hT hb, by rw [rs.len]; exact hl, e, Hs1, fe, P, xs, e', ok1, rs.z le, hx, fun σ' Hs' H' fe' t2 a2 ok2 => k σ' Hs' H' fe' t2 (a1.trans a2) ok2⟩
    split at hg
    · rename_i o xs he
      split at hg
      · rename_i hl
        exact main false xs (by rw [he]; rfl) rfl hl hg
      · cases hg
    · rename_i o xs he
      split at hg
      · rename_i hl
        exact main false xs (by rw [he]; rfl) rfl hl hg
      · cases hg
    · cases hg
end
end Bx

set_option Elab.async false
set_option linter.all false
set_option maxRecDepth 100000
set_option maxHeartbeats 1000000
/-! Walks: for, while, list comprehensions. -/
namespace Bx
open PySem L2

abbrev FI := En → Rs (List D)
/-- the walk J gives the items xs as long as the frozen part stands -/
structure JOk (G : Gc) (J : It) (xs : List D) (Hs : Hp) (L : Hp → Prop) : Prop where
  stop : ∀ Hs2 H2, Same Hs Hs2 → Sm Hs2 H2 → L H2 → J.stop xs.length H2
  go : ∀ Hs2 H2 i d, Same Hs Hs2 → Sm Hs2 H2 → L H2 → xs[i]? = some d → J.go i H2
  yld : ∀ Hs2 H2 i d x H', Same Hs Hs2 → Sm Hs2 H2 → L H2 → xs[i]? = some d → J.yld i H2 x H' → ∃ Hs3, New Hs2 H2 Hs3 H' f0 ∧ Rp G Hs3 H' x d f0
section
variable (C : Cc) (W : WX)
def EndI (r : Rs (List D)) (Hs H : Hp) (P : Addr → Prop) (σ : L2.St) (R : It → Hp → Prop) : Prop := match r with
  | .bad => False
  | .ok xs e' => ∀ J Hs' H' fe' P', (∀ b, P b → P' b) → Aft Hs H Hs' H' P → Ok C Hs' H' σ e' fe' f0 P' → JOk C.toGc J xs Hs' (fun H2 => ∀ b od u, H' b = some (.frz od u) → H2 b = some (.frz od u)) → R J H'
  | .exc x e' => XcK C W Hs H P σ x e'
def canI (F : FI) : TI := fun σ H R => ∃ e Hs fe P, Ok C Hs H σ e fe f0 P ∧ EndI C W (F e) Hs H P σ R
end
def BI (X : Cx) (C : Cc) (W : WX) (tg e : Expr) (F : FI) : Prop := PI X tg e (canI C W F)
theorem _root_.L2.PI.imp {X : Cx} {tg e : Expr} {t t' : TI} (h : PI X tg e t) (i : ∀ σ H R, t' σ H R → t σ H R) : PI X tg e t' := ⟨fun pins s σ H R I q => h.run pins s σ H R I (i _ _ _ q)⟩
theorem _root_.L2.PI.or {X : Cx} {tg e : Expr} {t t' : TI} (h : PI X tg e t) (h' : PI X tg e t') : PI X tg e (fun σ H R => t σ H R ∨ t' σ H R) :=
  ⟨fun pins s σ H R I q => q.elim (h.run pins s σ H R I) (h'.run pins s σ H R I)⟩

/-- the items of a walked value -/
def itsD : D → Option (List D)
  | .str x => if x.cps.size ≤ lim then some (x.cps.toList.map fun c => .str ⟨#[c]⟩) else none
  | d => (d.seq).map (·.2)
def iE (a : FE) : FI := fun e => (a e).bind fun d e1 => .opt (itsD (frz d)) e1
def rngD (lo : Int) (n : Nat) : List D := (List.range n).map fun (i : Nat) => .int (lo + (i : Int))
/-- range(n), range(a, b) -/
def rngA1 (ds : List D) : Option (List D) := match ds with
  | [.int j] => if j.natAbs < 2 ^ 62 then some (rngD 0 j.toNat) else none
  | _ => none
def rngA2 (ds : List D) : Option (List D) := match ds with
  | [.int i, .int j] => if i.natAbs < 2 ^ 62 ∧ j.natAbs < 2 ^ 62 then some (rngD i (j - i).toNat) else none
  | _ => none
def iRng1 (as : FA) : FI := fun e => (as e).bind fun as e1 => .opt ((dvs as).bind rngA1) e1
def iRng2 (as : FA) : FI := fun e => (as e).bind fun as e1 => .opt ((dvs as).bind rngA2) e1
/-- enumerate of a list -/
def enumD (n : Nat) : List D → List D
  | [] => []
  | x :: xs => .nd .tup false [.int n, x] :: enumD (n + 1) xs
def iEnu (as : FA) : FI := fun e => (as e).bind fun as e1 => .opt ((dvs as).bind fun ds => match frzs ds with
  | [d] => (match d.seq with
    | some (true, xs) => some (enumD 0 xs)
    | _ => none)
  | _ => none) e1

/-- the turns of a for -/
def forL (g : FG) (body : FS) : List D → FS
  | [], e => .nx e
  | x :: xs, e => match g x e with
    | none => .bad
    | some e1 => match body e1 with
      | .nx e2 => forL g body xs e2
      | .ct e2 => forL g body xs e2
      | .bk e2 => .nx e2
      | r => r
def fFor (it : FI) (g : FG) (body : FS) : FS := fun e => (it e).toS fun xs e1 => forL g body xs e1
/-- the turns of a while, at most n -/
def whN (c : FT) (body : FS) : Nat → FS
  | 0, _ => .bad
  | n + 1, e => (c e).toS fun k e1 => if k then (match body e1 with
      | .nx e2 => whN c body n e2
      | .ct e2 => whN c body n e2
      | .bk e2 => .nx e2
      | r => r) else .nx e1
open Classical in
noncomputable def fWh (c : FT) (body : FS) : FS := fun e => if h : ∃ n, whN c body n e ≠ .bad then whN c body h.choose e else .bad
/-- what must not raise -/
def Rs.nox {α : Type} (r : Rs α) : Rs α := match r with
  | .exc _ _ => .bad
  | r => r
def delL (e : En) : List Nat → En
  | [] => e
  | v :: vs => (delL e vs).del v
/-- the turns of a list comprehension -/
def lcL (vs : List Nat) (g : FG) (tt : FT) (el : FE) : List D → List D → En → Rs (List D)
  | [], acc, e => .ok acc e
  | x :: xs, acc, e => match g x e with
    | none => .bad
    | some e1 => (tt e1).nox.bind fun k e2 => if k then (el e2).nox.bind fun y e3 => (if acc.length < lim then lcL vs g tt el xs (acc ++ [y]) (delL e3 vs) else .bad) else lcL vs g tt el xs acc (delL e2 vs)
def eLc (vs : List Nat) (it : FI) (g : FG) (tt : FT) (el : FE) : FE := fun e => (it e).bind fun xs e1 => (lcL vs g tt el xs [] (delL e1 vs)).bind fun acc e2 => .ok (.nd .lst true acc) e2
def tYesF : FT := fun e => .ok true e

section
variable {X : Cx} {C : Cc} {W : WX} {pos : Pos} {a b c tg : Expr} {es : List Expr} {Fa Fb Fc : FE} {Ta : FT} {As : FA} {st : Stmt} {sts : List Stmt} {S T : FS}
theorem EndI.bind {α : Type} {r : Rs α} {k : α → En → Rs (List D)} {Hs H : Hp} {P : Addr → Prop} {σ : L2.St} {R : It → Hp → Prop} (h : EndI C W (r.bind k) Hs H P σ R) : EndZ C W r Hs H P σ fun d e' => r = .ok d e' ∧ EndI C W (k d e') Hs H P σ R := by
  cases r with
  | bad => exact h
  | ok d e' => exact ⟨rfl, h⟩
  | exc x e' => exact h
theorem EndI.shift {r : Rs (List D)} {Hs H Hs' H' : Hp} {P : Addr → Prop} {σ : L2.St} {R : It → Hp → Prop} (h : EndI C W r Hs H P σ R) (a : Aft Hs H Hs' H' P) : EndI C W r Hs' H' P σ R := by
  cases r with
  | bad => exact h
  | ok d e' => exact fun J H2s H2 fe' P' hp b ok j => h J H2s H2 fe' P' hp (a.trans b) ok j
  | exc x e' => exact XcK.shift h a
/-- frozen items stand in the frozen part -/
theorem rp_seqS {G : Gc} {Hs H : Hp} {v : V} {d : D} {b : Bool} {xs : List D} (r : Rp G Hs H v d f0) (h : d.seq = some (b, xs)) :
    ∃ p vs, v = .ref p ∧ (b = true → SqL G.K Hs p vs) ∧ (b = false → SqT G.K Hs p vs) ∧ Rps G Hs H vs xs f0 := by
  cases r with
  | @sh p k vs _ _ h1 rs z =>
    refine ⟨p, vs, rfl, ?_⟩
    cases k with
    | lst => cases h; exact ⟨fun _ => SqL.of h1, (fun z => nomatch z), rs⟩
    | wl => cases h; exact ⟨fun _ => h1, (fun z => nomatch z), rs⟩
    | tup => cases h; exact ⟨(fun z => nomatch z), fun _ => SqT.of h1, rs⟩
    | wt => cases h; exact ⟨(fun z => nomatch z), fun _ => h1, rs⟩
    | _ => cases h
  | own _ _ _ _ e => have := e ‹Addr›; rw [if_pos rfl] at this; simp only [f0] at this; omega
  | _ => cases h
theorem jok_seqL {G : Gc} {Hs H : Hp} {p : Addr} {vs : List V} {xs : List D} (h : SqL G.K Hs p vs) (rs : Rps G Hs H vs xs f0) : (∀ Hs2 H2, Same Hs Hs2 → Sm Hs2 H2 → SqL G.K H2 p vs) ∧ ∀ Hs2 H2, Same Hs Hs2 → Rps G Hs2 H2 vs xs f0 :=
  ⟨fun Hs2 H2 s m => m.sqL (Same.seq s h), fun Hs2 H2 s => rs.mono s fun b hb => absurd rfl hb⟩
theorem jok_seqT {G : Gc} {Hs H : Hp} {p : Addr} {vs : List V} {xs : List D} (h : SqT G.K Hs p vs) (rs : Rps G Hs H vs xs f0) : (∀ Hs2 H2, Same Hs Hs2 → Sm Hs2 H2 → SqT G.K H2 p vs) ∧ ∀ Hs2 H2, Same Hs Hs2 → Rps G Hs2 H2 vs xs f0 :=
  ⟨fun Hs2 H2 s m => m.sqT (Same.seqT s h), fun Hs2 H2 s => rs.mono s fun b hb => absurd rfl hb⟩
theorem jok_list {G : Gc} {Hs : Hp} {p : Addr} {vs : List V} {xs : List D} {L : Hp → Prop} (h : ∀ Hs2 H2, Same Hs Hs2 → Sm Hs2 H2 → SqL G.K H2 p vs) (rs : ∀ Hs2 H2, Same Hs Hs2 → Rps G Hs2 H2 vs xs f0) : JOk G (Itl G.K p) xs Hs L := by
  refine ⟨fun Hs2 H2 s m _ => ⟨vs, h _ _ s m, Nat.le_of_eq (rs Hs2 H2 s).len⟩, fun Hs2 H2 i d s m _ e => ?_, fun Hs2 H2 i d x H' s m _ e y => ?_⟩
  · obtain ⟨v, hv, _⟩ := (rs Hs2 H2 s).at e
    exact ⟨vs, v, h _ _ s m, hv⟩
  · obtain ⟨rfl, k⟩ := y
    obtain ⟨v, hv, rv⟩ := (rs Hs2 H' s).at e
    have := k vs (h _ _ s m)
    rw [hv] at this; cases this
    exact ⟨Hs2, New.refl m, rv⟩
theorem jok_tup {G : Gc} {Hs : Hp} {p : Addr} {vs : List V} {xs : List D} {L : Hp → Prop} (h : ∀ Hs2 H2, Same Hs Hs2 → Sm Hs2 H2 → SqT G.K H2 p vs) (rs : ∀ Hs2 H2, Same Hs Hs2 → Rps G Hs2 H2 vs xs f0) : JOk G (Itt G.K p) xs Hs L := by
  refine ⟨fun Hs2 H2 s m _ => ⟨vs, h _ _ s m, Nat.le_of_eq (rs Hs2 H2 s).len⟩, fun Hs2 H2 i d s m _ e => ?_, fun Hs2 H2 i d x H' s m _ e y => ?_⟩
  · obtain ⟨v, hv, _⟩ := (rs Hs2 H2 s).at e
    exact ⟨vs, v, h _ _ s m, hv⟩
  · obtain ⟨rfl, k⟩ := y
    obtain ⟨v, hv, rv⟩ := (rs Hs2 H' s).at e
    have := k vs (h _ _ s m)
    rw [hv] at this; cases this
    exact ⟨Hs2, New.refl m, rv⟩
theorem jok_rng {G : Gc} {Hs : Hp} {lo : Int} {n : Nat} {L : Hp → Prop} : JOk G (Itr lo n) (rngD lo n) Hs L := by
  have el : (rngD lo n).length = n := by unfold rngD; rw [List.length_map, List.length_range]
  refine ⟨fun Hs2 H2 s m _ => by rw [el]; exact Nat.le_refl _, fun Hs2 H2 i d s m _ e => ?_, fun Hs2 H2 i d x H' s m _ e y => ?_⟩
  · have := (List.getElem?_eq_some_iff.mp e).1
    rw [el] at this; exact this
  · obtain ⟨rfl, rfl⟩ := y
    have hi := (List.getElem?_eq_some_iff.mp e).1
    rw [el] at hi
    have : (rngD lo n)[i]? = some (.int (lo + i)) := by
      unfold rngD
      rw [List.getElem?_map, List.getElem?_range hi]; rfl
    rw [this] at e; cases e
    exact ⟨Hs2, New.refl m, r_int _⟩
theorem jok_str {G : Gc} {Hs : Hp} {x : Str} {L : Hp → Prop} : JOk G (Its x) (x.cps.toList.map fun c => .str ⟨#[c]⟩) Hs L := by
  refine ⟨fun Hs2 H2 s m _ => by rw [List.length_map, Array.length_toList]; exact Nat.le_refl _, fun Hs2 H2 i d s m _ e => ?_, fun Hs2 H2 i d v H' s m _ e y => ?_⟩
  · have := (List.getElem?_eq_some_iff.mp e).1
    rw [List.length_map, Array.length_toList] at this; exact this
  · obtain ⟨rfl, c, hc, rfl⟩ := y
    rw [List.getElem?_map, Array.getElem?_toList, hc] at e
    cases e
    exact ⟨Hs2, New.refl m, r_str _⟩
theorem enumD_get : ∀ {xs : List D} {n i : Nat}, (enumD n xs)[i]? = (xs[i]?).map fun x => D.nd .tup false [.int (n + i : Nat), x]
  | [], n, i => by simp [enumD]
  | x :: xs, n, 0 => by simp [enumD]
  | x :: xs, n, i + 1 => by
    unfold enumD
    rw [List.getElem?_cons_succ, List.getElem?_cons_succ, enumD_get (xs := xs) (n := n + 1)]
    have : n + 1 + i = n + (i + 1) := by omega
    rw [this]
theorem enumD_len : ∀ {xs : List D} {n : Nat}, (enumD n xs).length = xs.length
  | [], _ => rfl
  | x :: xs, n => by unfold enumD; rw [List.length_cons, List.length_cons, enumD_len]
theorem jok_enum {G : Gc} {Hs : Hp} {p : Addr} {vs : List V} {xs : List D} {L : Hp → Prop} (h : ∀ Hs2 H2, Same Hs Hs2 → Sm Hs2 H2 → SqL G.K H2 p vs) (rs : ∀ Hs2 H2, Same Hs Hs2 → Rps G Hs2 H2 vs xs f0) : JOk G (Ite G.K p) (enumD 0 xs) Hs L := by
  refine ⟨fun Hs2 H2 s m _ => ⟨vs, h _ _ s m, by rw [enumD_len]; exact Nat.le_of_eq (rs Hs2 H2 s).len⟩, fun Hs2 H2 i d s m _ e => ?_, fun Hs2 H2 i d x H' s m _ e y => ?_⟩
  · rw [enumD_get] at e
    obtain ⟨x, hx, _⟩ := Option.map_eq_some_iff.mp e
    obtain ⟨v, hv, _⟩ := (rs Hs2 H2 s).at hx
    exact ⟨vs, v, h _ _ s m, hv⟩
  · rw [enumD_get] at e
    obtain ⟨z, hz, rfl⟩ := Option.map_eq_some_iff.mp e
    obtain ⟨T, w, rfl, nT, rfl, k⟩ := y
    obtain ⟨v, hv, rv⟩ := (rs Hs2 H2 s).at hz
    have := k vs (h _ _ s m)
    rw [hv] at this; cases this
    refine ⟨_, New.mkS m nT, newTup m nT ?_⟩
    rw [Nat.zero_add]
    exact .cons (r_int _) (.cons rv (.nil (f := f0) fun _ => rfl) fun _ => rfl) fun _ => rfl

theorem bi_E (hk : X.K = C.K) (ha : BE X C W a Fa) : BI X C W tg a (iE Fa) :=
  (PI.or (PI.or (pi_list ha) (pi_tup ha)) (pi_str ha)).imp fun σ H R ⟨e, Hs, fe, P, ok, q⟩ => by
    have qz := EndI.bind q
    -- what a gives tells which walk it is
    have cases3 : (∃ d e1, Fa e = .ok d e1 ∧ ∃ x, frz d = .str x) ∨ (∃ d e1, Fa e = .ok d e1 ∧ ∃ xs, (frz d).seq = some (false, xs)) ∨ ∀ d e1, Fa e = .ok d e1 → (∀ x, frz d ≠ .str x) ∧ ∀ xs, (frz d).seq ≠ some (false, xs) := by
      cases h : Fa e with
      | bad => exact .inr (.inr fun d e1 z => by cases z)
      | exc x e1 => exact .inr (.inr fun d e1 z => by cases z)
      | ok d e1 =>
        by_cases h1 : ∃ x, frz d = .str x
        · exact .inl ⟨d, e1, rfl, h1⟩
        · by_cases h2 : ∃ xs, (frz d).seq = some (false, xs)
          · exact .inr (.inl ⟨d, e1, rfl, h2⟩)
          · refine .inr (.inr fun d' e1' z => ?_)
            cases z
            exact ⟨fun x z => h1 ⟨x, z⟩, fun xs z => h2 ⟨xs, z⟩⟩
    rcases cases3 with ⟨d0, e0, h0, x0, hx0⟩ | ⟨d0, e0, h0, xs0, hx0⟩ | hno
    · refine .inr (firstE ok qz fun d e1 v Hs1 H1 fe1 fv1 a1 ok1 r1 ⟨hd, q1⟩ => ?_)
      rw [h0] at hd; cases hd
      obtain ⟨Hs3, a3, ok3, r3, _⟩ := (ok1.fps (fun _ => rfl) (fx' := fun b => fv1 b + f0 b) fun _ => rfl).freeze r1
      have q3 := q1.shift (a1.trans a3)
      rw [hx0] at q3 r3
      unfold itsD at q3
      dsimp only at q3
      by_cases hl : x0.cps.size ≤ lim
      · rw [if_pos hl] at q3
        exact ⟨x0, r3.toS, q3 _ Hs3 H1 fe1 _ (fun _ h => h) (Aft.refl _ _ _) ok3 jok_str⟩
      · rw [if_neg hl] at q3; exact q3.elim
    · refine .inl (.inr (firstE ok qz fun d e1 v Hs1 H1 fe1 fv1 a1 ok1 r1 ⟨hd, q1⟩ => ?_))
      rw [h0] at hd; cases hd
      obtain ⟨Hs3, a3, ok3, r3, _⟩ := (ok1.fps (fun _ => rfl) (fx' := fun b => fv1 b + f0 b) fun _ => rfl).freeze r1
      have q3 := q1.shift (a1.trans a3)
      obtain ⟨p, vs, rfl, _, hT, rs⟩ := rp_seqS r3 hx0
      have hi : itsD (frz d0) = some xs0 := by
        unfold itsD
        split
        · rename_i x hx; rw [hx] at hx0; cases hx0
        · rw [hx0]; rfl
      rw [hi] at q3
      obtain ⟨j1, j2⟩ := jok_seqT (hT rfl) rs
      refine ⟨p, rfl, ⟨vs, by rw [hk]; exact j1 _ _ (Same.refl _) ok3.sm⟩, q3 _ Hs3 H1 fe1 _ (fun _ h => h) (Aft.refl _ _ _) ok3 ?_⟩
      rw [hk]
      exact jok_tup (G := C.toGc) j1 j2
    · refine .inl (.inl (firstE ok qz fun d e1 v Hs1 H1 fe1 fv1 a1 ok1 r1 ⟨hd, q1⟩ => ?_))
      obtain ⟨n1, n2⟩ := hno d e1 hd
      obtain ⟨Hs3, a3, ok3, r3, _⟩ := (ok1.fps (fun _ => rfl) (fx' := fun b => fv1 b + f0 b) fun _ => rfl).freeze r1
      have q3 := q1.shift (a1.trans a3)
      have hi : itsD (frz d) = ((frz d).seq).map (·.2) := by
        unfold itsD
        split
        · rename_i x hx; exact absurd hx (n1 x)
        · rfl
      rw [hi] at q3
      cases hs : (frz d).seq with
      | none => rw [hs] at q3; exact q3.elim
      | some bx =>
        obtain ⟨b, xs⟩ := bx
        cases b with
        | false => exact absurd hs (n2 xs)
        | true =>
          rw [hs] at q3
          obtain ⟨p, vs, rfl, hL, _, rs⟩ := rp_seqS r3 hs
          obtain ⟨j1, j2⟩ := jok_seqL (hL rfl) rs
          refine ⟨p, rfl, ⟨vs, by rw [hk]; exact j1 _ _ (Same.refl _) ok3.sm⟩, q3 _ Hs3 H1 fe1 _ (fun _ h => h) (Aft.refl _ _ _) ok3 ?_⟩
          rw [hk]
          exact jok_list (G := C.toGc) j1 j2
theorem Rps.int1 {G : Gc} {Hs H : Hp} {vs : List V} {i : Int} {f : Fp} (r : Rps G Hs H vs [.int i] f) : vs = [.int i] := by
  cases r with | cons r rs _ => cases rs with | nil _ => rw [r.toI]
theorem Rps.int2 {G : Gc} {Hs H : Hp} {vs : List V} {i j : Int} {f : Fp} (r : Rps G Hs H vs [.int i, .int j] f) : vs = [.int i, .int j] := by
  cases r with | cons r rs _ => rw [r.toI, rs.int1]
theorem bi_rng1 {p ppos : Pos} (hg : Gl X "range") (hm : X.mg "range" = none) (ha : BA X C W [a] As) (h1 : starEach [a] X.env = [(false, eval a X.env)]) : BI X C W tg (.Call (.Name "range" p) [a] [] ppos) (iRng1 As) :=
  (pi_range1 hg hm ha h1).imp fun σ H R ⟨e, Hs, fe, P, ok, q⟩ => by
    refine firstA ok (EndI.bind q) fun as e1 vs Hs1 H1 fe1 fv1 a1 ok1 r1 ⟨_, q1⟩ => ?_
    cases h : (dvs as).bind rngA1 with
    | none => rw [h] at q1; exact q1.elim
    | some z =>
      rw [h] at q1
      obtain ⟨ds, h1, h2⟩ := Option.bind_eq_some_iff.mp h
      unfold rngA1 at h2
      split at h2
      · rename_i j
        split at h2
        · rename_i hb
          cases h2
          have rv := (r1.vals h1).int1
          exact ⟨j, rv, by omega, by omega, q1 _ Hs1 H1 fe1 _ (fun _ h => h) a1 (ok1.less fun _ => Nat.zero_le _) jok_rng⟩
        · cases h2
      · cases h2
theorem bi_rng2 {p ppos : Pos} (hg : Gl X "range") (hm : X.mg "range" = none) (ha : BA X C W [a, b] As) (h1 : starEach [a, b] X.env = [(false, eval a X.env), (false, eval b X.env)]) (h2 : starEach [b] X.env = [(false, eval b X.env)]) : BI X C W tg (.Call (.Name "range" p) [a, b] [] ppos) (iRng2 As) :=
  (pi_range2 hg hm ha h1 h2).imp fun σ H R ⟨e, Hs, fe, P, ok, q⟩ => by
    refine firstA ok (EndI.bind q) fun as e1 vs Hs1 H1 fe1 fv1 a1 ok1 r1 ⟨_, q1⟩ => ?_
    cases h : (dvs as).bind rngA2 with
    | none => rw [h] at q1; exact q1.elim
    | some z =>
      rw [h] at q1
      obtain ⟨ds, h1, h2⟩ := Option.bind_eq_some_iff.mp h
      unfold rngA2 at h2
      split at h2
      · rename_i i j
        split at h2
        · rename_i hb
          cases h2
          have rv := (r1.vals h1).int2
          exact ⟨i, j, rv, ⟨by omega, by omega, by omega, by omega⟩, q1 _ Hs1 H1 fe1 _ (fun _ h => h) a1 (ok1.less fun _ => Nat.zero_le _) jok_rng⟩
        · cases h2
      · cases h2
theorem bi_enum {p ppos tpos : Pos} {elts : List Expr} {kk : Nat} (hk : X.K = C.K) (hg : Gl X "enumerate") (hm : X.mg "enumerate" = none) (ha : BA X C W [a] As) (h1 : starEach [a] X.env = [(false, eval a X.env)]) :
    BI X C W (.Tuple elts kk tpos) (.Call (.Name "enumerate" p) [a] [] ppos) (iEnu As) :=
  (pi_enum hg hm ha h1).imp fun σ H R ⟨e, Hs, fe, P, ok, q⟩ => by
    refine firstA ok (EndI.bind q) fun as e1 vs Hs1 H1 fe1 fv1 a1 ok1 r1 ⟨_, q1⟩ => ?_
    cases h : ((dvs as).bind fun ds => match frzs ds with
      | [d] => (match d.seq with
        | some (true, xs) => some (enumD 0 xs)
        | _ => none)
      | _ => none) with
    | none => rw [h] at q1; exact q1.elim
    | some z =>
      rw [h] at q1
      obtain ⟨ds, h1, h2⟩ := Option.bind_eq_some_iff.mp h
      obtain ⟨Hs3, a3, ok3, r3⟩ := ok1.freezes (r1.vals h1)
      have q3 := q1.shift (a1.trans a3)
      split at h2
      · rename_i d hd
        split at h2
        · rename_i xs hs
          cases h2
          rw [hd] at r3
          obtain ⟨v, rfl, rv⟩ := r3.one
          obtain ⟨p, ws, rfl, hL, _, rs⟩ := rp_seqS rv hs
          obtain ⟨j1, j2⟩ := jok_seqL (hL rfl) rs
          refine ⟨p, ws, rfl, by rw [hk]; exact j1 _ _ (Same.refl _) ok3.sm, q3 _ Hs3 H1 fe1 _ (fun _ h => h) (Aft.refl _ _ _) ok3 ?_⟩
          rw [hk]
          exact jok_enum (G := C.toGc) j1 j2
        · cases h2
      · cases h2

theorem Ok.weakP {Hs H : Hp} {σ : L2.St} {e : En} {fe fx : Fp} {P P' : Addr → Prop} (o : Ok C Hs H σ e fe fx P') (h : ∀ b, P b → P' b) : Ok C Hs H σ e fe fx P :=
  ⟨⟨o.wf.sm, o.wf.one, o.wf.own, fun b hb => o.wf.apart b (h b hb), fun b hb => o.wf.live b (h b hb)⟩, o.sl, o.pn, o.ex⟩
theorem EndS.unhold {r : So} {Hs H : Hp} {P P' : Addr → Prop} {N : Ends} (h : EndS C W r Hs H P N) (q : ∀ b, P b → P' b) : EndS C W r Hs H P' N := by
  cases r with
  | bad => exact h
  | nx e' => exact fun s H2s H2 fe' b ok => h s H2s H2 fe' (b.weak q) (ok.weakP q)
  | bk e' => exact fun s H2s H2 fe' b ok => h s H2s H2 fe' (b.weak q) (ok.weakP q)
  | ct e' => exact fun s H2s H2 fe' b ok => h s H2s H2 fe' (b.weak q) (ok.weakP q)
  | rt d e' => exact fun v s H2s H2 fe' fv b ok r => h v s H2s H2 fe' fv (b.weak q) (ok.weakP q) r
  | exc x e' => exact fun dd s H2s H2 fe' b ok ex => h dd s H2s H2 fe' (b.weak q) (ok.weakP q) ex
theorem EndE.unhold {r : Rs D} {Hs H : Hp} {P P' : Addr → Prop} {σ : L2.St} {Q : VK} (h : EndE C W r Hs H P σ Q) (q : ∀ b, P b → P' b) : EndE C W r Hs H P' σ Q := by
  cases r with
  | bad => exact h
  | ok d e' => exact fun v H2s H2 fe' fv b ok r => h v H2s H2 fe' fv (b.weak q) (ok.weakP q) r
  | exc x e' => exact XcK.unhold h q
theorem EndS.bindI {r : Rs (List D)} {k : List D → En → So} {Hs H : Hp} {P : Addr → Prop} {N : Ends} {σ : L2.St} {R : It → Hp → Prop} (h : EndS C W (r.toS k) Hs H P N)
    (hR : ∀ J xs e' Hs' H' fe' P', Ok C Hs' H' σ e' fe' f0 P' → JOk C.toGc J xs Hs' (fun H2 => ∀ b od u, H' b = some (.frz od u) → H2 b = some (.frz od u)) → EndS C W (k xs e') Hs' H' P' N → R J H') : EndI C W r Hs H P σ R := by
  cases r with
  | bad => exact h
  | ok xs e' => exact fun J Hs' H' fe' P' hp a ok j => hR J xs e' Hs' H' fe' P' ok j ((h.shift a).unhold hp)
  | exc x e' => exact fun dd H2s H2 fe' b ok ex => h dd σ H2s H2 fe' b ok ex
/-- an item comes: the state behind it -/
theorem Ok.yld {J : It} {xs : List D} {Hs1 Hs H H' : Hp} {σ : L2.St} {e : En} {fe : Fp} {P : Addr → Prop} {i : Nat} {d : D} {x : V} {L : Hp → Prop} (ok : Ok C Hs H σ e fe f0 P) (j : JOk C.toGc J xs Hs1 L) (s : Same Hs1 Hs) (l : L H) (hd : xs[i]? = some d) (y : J.yld i H x H') :
    ∃ Hs', Aft Hs H Hs' H' P ∧ Ok C Hs' H' σ e fe f0 P ∧ Rp C.toGc Hs' H' x d f0 := by
  obtain ⟨Hs3, n, r⟩ := j.yld Hs H i d x H' s ok.sm l hd y
  exact ⟨Hs3, n.aft ok, (ok.new n fun _ h => absurd rfl h).fps (fun _ => rfl) fun _ => rfl, r⟩
theorem bs_for {body : List Stmt} {It : FI} {ts : List Nat} {g : FG} (hp : PassesOwn (model X.prog X.w) X.A X.env X.xe) (hc : X.calm = true) (hi : BI X C W tg a It) (hg : BG X C tg ts g) (hb : BSs X C W body S) (hf : ∀ x, foldedSetIterable a X.env x = pure x) :
    BS X C W (.For tg a body [] pos) (fFor It g S) :=
  (ps_for hp hc hi hg hb hf).imp fun N σ H ⟨e, Hs, fe, P0, ok, q⟩ => by
    refine ⟨e, Hs, fe, P0, ok, EndS.bindI q fun J xs e1 Hs1 H1 fe1 P ok1 j q1 => ?_⟩
    refine ⟨fun i m σ' H' => i + m = xs.length ∧ ∃ e' Hs' fe', Aft Hs1 H1 Hs' H' P ∧ Ok C Hs' H' σ' e' fe' f0 P ∧ EndS C W (forL g S (xs.drop i) e') Hs' H' P N, ⟨xs.length, by omega, e1, Hs1, fe1, Aft.refl _ _ _, ok1, q1⟩, ?_⟩
    rintro i m σ' H' ⟨hm, e', Hs', fe', a2, ok2, q2⟩
    have lk := a2.lk
    by_cases hlt : i < xs.length
    · obtain ⟨d, hd⟩ : ∃ d, xs[i]? = some d := ⟨_, List.getElem?_eq_getElem hlt⟩
      have ed : xs.drop i = d :: xs.drop (i + 1) := by
        rw [List.drop_eq_getElem_cons hlt]
        rw [List.getElem?_eq_getElem hlt] at hd
        rw [Option.some.inj hd]
      rw [ed] at q2
      unfold forL at q2
      refine .inr ⟨j.go Hs' H' i d a2.sh ok2.sm lk hd, fun σ'' H'' => i + 1 + (m - 1) = xs.length ∧ ∃ e' Hs' fe', Aft Hs1 H1 Hs' H'' P ∧ Ok C Hs' H'' σ'' e' fe' f0 P ∧ EndS C W (forL g S (xs.drop (i + 1)) e') Hs' H'' P N, fun σ'' H'' h => ⟨m - 1, by omega, h⟩, fun x H'' y => ?_⟩
      obtain ⟨Hs3, a3, ok3, r3⟩ := ok2.yld j a2.sh lk hd y
      have q3 := q2.shift a3
      cases hgx : g d e' with
      | none => rw [hgx] at q3; exact q3.elim
      | some e4 =>
        rw [hgx] at q3
        dsimp only at q3
        refine ⟨e', Hs3, fe', f0, P, d, e4, ok3, r3, hgx, fun σ5 Hs5 H5 fe5 _ a5 ok5 => ⟨e4, Hs5, fe5, P, ok5, ?_⟩⟩
        have q5 := q3.shift a5
        have a6 : Aft Hs1 H1 Hs5 H5 P := (a2.trans a3).trans a5
        generalize S e4 = r at q5 ⊢
        cases r with
        | bad => exact q5
        | nx e6 => exact fun σ7 Hs7 H7 fe7 a7 ok7 => ⟨by omega, e6, Hs7, fe7, a6.trans a7, ok7, q5.shift a7⟩
        | ct e6 => exact fun σ7 Hs7 H7 fe7 a7 ok7 => ⟨by omega, e6, Hs7, fe7, a6.trans a7, ok7, q5.shift a7⟩
        | bk e6 => exact q5
        | rt d6 e6 => exact q5
        | exc x6 e6 => exact q5
    · have ei : i = xs.length := by omega
      subst ei
      rw [List.drop_length] at q2
      exact .inl ⟨j.stop Hs' H' a2.sh ok2.sm lk, q2 σ' Hs' H' fe' (Aft.refl _ _ _) ok2⟩
theorem bs_while {body : List Stmt} (hp : PassesOwn (model X.prog X.w) X.A X.env X.xe) (hc : BT X C W c Ta) (hb : BSs X C W body S) : BS X C W (.While c body [] pos) (fWh Ta S) :=
  (ps_while hp hc hb).imp fun N σ H ⟨e, Hs, fe, P, ok, q⟩ => by
    unfold fWh at q
    by_cases hex : ∃ n, whN Ta S n e ≠ .bad
    · rw [dif_pos hex] at q
      generalize hex.choose = n at q
      refine ⟨fun m σ' H' => ∃ e' Hs' fe', Aft Hs H Hs' H' P ∧ Ok C Hs' H' σ' e' fe' f0 P ∧ EndS C W (whN Ta S m e') Hs' H' P N, ⟨n, e, Hs, fe, Aft.refl _ _ _, ok, q⟩, ?_⟩
      rintro m σ' H' ⟨e', Hs', fe', a2, ok2, q2⟩
      cases m with
      | zero => exact q2.elim
      | succ m =>
        unfold whN at q2
        refine firstT ok2 (q2.bind σ') fun k e3 Hs3 H3 fe3 a3 ok3 q3 => ?_
        have q4 := q3.shift a3
        have a6 := a2.trans a3
        cases k with
        | false => exact iteF (q4 σ' Hs3 H3 fe3 (Aft.refl _ _ _) ok3)
        | true =>
          rw [if_pos rfl] at q4
          refine iteT ⟨fun σ'' H'' => ∃ e' Hs' fe', Aft Hs H Hs' H'' P ∧ Ok C Hs' H'' σ'' e' fe' f0 P ∧ EndS C W (whN Ta S m e') Hs' H'' P N, fun σ'' H'' h => ⟨m, Nat.lt_succ_self _, h⟩, e3, Hs3, fe3, P, ok3, ?_⟩
          generalize S e3 = r at q4 ⊢
          cases r with
          | bad => exact q4
          | nx e6 => exact fun σ7 Hs7 H7 fe7 a7 ok7 => ⟨e6, Hs7, fe7, a6.trans a7, ok7, q4.shift a7⟩
          | ct e6 => exact fun σ7 Hs7 H7 fe7 a7 ok7 => ⟨e6, Hs7, fe7, a6.trans a7, ok7, q4.shift a7⟩
          | bk e6 => exact q4
          | rt d6 e6 => exact q4
          | exc x6 e6 => exact q4
    · rw [dif_neg hex] at q; exact q.elim
theorem whN_succ {c : FT} {body : FS} : ∀ {n : Nat} {e : En} {r : So}, whN c body n e = r → r ≠ .bad → whN c body (n + 1) e = r
  | 0, e, r, h, hr => absurd h.symm hr
  | n + 1, e, r, h, hr => by
    unfold whN at h ⊢
    cases hc : c e with
    | bad => rw [hc] at h; exact h
    | exc x e1 => rw [hc] at h; exact h
    | ok k e1 =>
      rw [hc] at h
      cases k with
      | false => exact h
      | true =>
        simp only [Rs.toS, if_true] at h ⊢
        cases hb : body e1 with
        | nx e2 => rw [hb] at h; exact whN_succ h hr
        | ct e2 => rw [hb] at h; exact whN_succ h hr
        | _ => rw [hb] at h; exact h
theorem whN_add {c : FT} {body : FS} {n : Nat} {e : En} {r : So} (h : whN c body n e = r) (hr : r ≠ .bad) : ∀ k, whN c body (n + k) e = r
  | 0 => h
  | k + 1 => whN_succ (whN_add h hr k) hr
/-- a while that ends -/
theorem fWh_of {c : FT} {body : FS} {n : Nat} {e : En} {r : So} (h : whN c body n e = r) (hr : r ≠ .bad) : fWh c body e = r := by
  have hex : ∃ n, whN c body n e ≠ .bad := ⟨n, by rw [h]; exact hr⟩
  unfold fWh
  rw [dif_pos hex]
  have h1 := hex.choose_spec
  generalize hex.choose = m at h1 ⊢
  have a := whN_add h hr m
  have b := whN_add (rfl : whN c body m e = _) h1 n
  rw [Nat.add_comm] at b
  rw [← b, a]
end
end Bx

set_option Elab.async false
set_option linter.all false
set_option maxRecDepth 100000
set_option maxHeartbeats 1000000
/-! List comprehensions. -/
namespace Bx
open PySem L2

theorem wipe_at {σ : L2.St} {i : Nat} : ∀ {vs : List Nat}, i ∈ vs → i < σ.length → (wipe σ vs)[i]? = some none
  | [], h, _ => by cases h
  | v :: vs, h, hl => by
    unfold wipe
    by_cases e : v = i
    · rw [e, List.getElem?_set_self (by rw [wipe_length]; exact hl)]
    · rw [List.getElem?_set_ne e]
      rcases List.mem_cons.mp h with z | z
      · exact absurd z.symm e
      · exact wipe_at z hl
theorem wipe_tch {σ σ2 : L2.St} {ts vs : List Nat} (t : Tch ts (wipe σ vs) σ2) (h : ∀ i ∈ ts, i ∈ vs) : wipe σ2 vs = wipe σ vs := by
  apply List.ext_getElem?
  intro i
  have hl : σ2.length = σ.length := t.1.trans (wipe_length σ vs)
  by_cases hi : i ∈ vs
  · by_cases hlt : i < σ.length
    · rw [wipe_at hi hlt, wipe_at hi (by omega)]
    · rw [List.getElem?_eq_none (by rw [wipe_length]; omega), List.getElem?_eq_none (by rw [wipe_length]; omega)]
  · rw [wipe_out hi]
    exact t.2 i fun z => hi (h i z)
theorem delL_len (e : En) : ∀ vs : List Nat, (delL e vs).sl.length = e.sl.length
  | [] => rfl
  | v :: vs => by unfold delL En.del; rw [List.length_set]; exact delL_len e vs
theorem delL_at {e : En} {i : Nat} : ∀ {vs : List Nat}, i ∈ vs → ∀ d, (delL e vs).sl[i]? ≠ some (some d)
  | [], h, _ => by cases h
  | v :: vs, h, d => by
    unfold delL En.del
    by_cases e' : v = i
    · subst e'
      by_cases hl : v < (delL e vs).sl.length
      · rw [List.getElem?_set_self hl]; intro z; cases z
      · rw [List.getElem?_eq_none (by rw [List.length_set]; omega)]; intro z; cases z
    · rw [List.getElem?_set_ne e']
      rcases List.mem_cons.mp h with z | z
      · exact absurd z.symm e'
      · exact delL_at z d
section
variable {G : Gc} {Hs H : Hp}
theorem Sls.any : ∀ {σ σ2 : L2.St} {E : List (Option D)} {f : Fp}, Sls G Hs H σ E f → σ2.length = σ.length → (∀ (i : Nat) (d : D), E[i]? = some (some d) → σ2[i]? = σ[i]?) → Sls G Hs H σ2 E f
  | _, [], _, _, .nil z, _, _ => .nil z
  | _, _ :: _, _, _, .nil z, h, _ => by cases h
  | _, [], _, _, .no r, h, _ => by cases h
  | _, o :: σ2, _, _, .no r, h, k => .no (Sls.any r (by simpa using h) fun i d e => by simpa using k (i + 1) d (by simpa using e))
  | _, [], _, _, .yes r rs q, h, _ => by cases h
  | _, o :: σ2, _, _, .yes (d := d) r rs q, h, k => by
    have h0 := k 0 d rfl
    simp at h0; subst h0
    exact .yes r (Sls.any rs (by simpa using h) fun i d e => by simpa using k (i + 1) d (by simpa using e)) q
end
section
variable {C : Cc} {W : WX} {Hs H : Hp} {σ : L2.St} {e : En} {fe fx : Fp} {P : Addr → Prop}
theorem Ok.delL (ok : Ok C Hs H σ e fe fx P) : ∀ vs : List Nat, ∃ fe', Ok C Hs H σ (delL e vs) fe' fx P
  | [] => ⟨fe, ok⟩
  | v :: vs => by
    obtain ⟨fe1, ok1⟩ := Ok.delL ok vs
    exact ok1.del v
/-- slots that are not looked at may hold anything -/
theorem Ok.frame {σ2 : L2.St} (ok : Ok C Hs H σ e fe fx P) (hl : σ2.length = σ.length) (h : ∀ (i : Nat) (d : D), e.sl[i]? = some (some d) → σ2[i]? = σ[i]?) (hp : ∀ p ∈ C.pins, σ2[p.1]? = σ[p.1]?) : Ok C Hs H σ2 e fe fx P :=
  ⟨ok.wf, ok.sl.any hl h, fun p hpp => (hp p hpp).trans (ok.pn p hpp), ok.ex⟩
theorem Ok.wipe {vs : List Nat} (hv : ∀ p ∈ C.pins, p.1 ∉ vs) (ok : Ok C Hs H σ (Bx.delL e vs) fe fx P) : Ok C Hs H (L2.wipe σ vs) (Bx.delL e vs) fe fx P :=
  ok.frame (wipe_length σ vs) (fun i d h => wipe_out fun z => delL_at z d h) fun p hp => wipe_out (hv p hp)
theorem Ok.unwipe {vs : List Nat} (hv : ∀ p ∈ C.pins, p.1 ∉ vs) (ok : Ok C Hs H (L2.wipe σ vs) (Bx.delL e vs) fe fx P) : Ok C Hs H σ (Bx.delL e vs) fe fx P :=
  ok.frame (wipe_length σ vs).symm (fun i d h => (wipe_out fun z => delL_at z d h).symm) fun p hp => (wipe_out (hv p hp)).symm
end

/-- nothing is raised here -/
abbrev W0 : WX := fun _ _ _ _ => False
theorem EndZ.nox {α : Type} {C : Cc} {r : Rs α} {Hs H : Hp} {P : Addr → Prop} {σ : L2.St} {Z : α → En → Prop} {W : WX} (h : EndZ C W r.nox Hs H P σ Z) : EndZ C W0 r Hs H P σ Z := by
  cases r with
  | bad => exact h
  | ok d e => exact h
  | exc x e => exact h.elim
def BTs (X : Cx) (C : Cc) (W : WX) (ifs : List Expr) (F : FT) : Prop := PTs X ifs (canT C W F)
theorem _root_.L2.PTs.imp {X : Cx} {e : List Expr} {t t' : TT} (h : PTs X e t) (i : ∀ σ H Q, t' σ H Q → t σ H Q) : PTs X e t' := ⟨fun pins s σ H Q I q => h.run pins s σ H Q I (i _ _ _ q)⟩
theorem bts_nil {X : Cx} {C : Cc} {W : WX} : BTs X C W [] tYesF := pts_nil.imp fun σ H Q ⟨e, Hs, fe, P, ok, q⟩ => q Hs H fe (Aft.refl _ _ _) ok
theorem bts_one {X : Cx} {C : Cc} {W : WX} {c : Expr} {F : FT} (h : BT X C W c F) : BTs X C W [c] F := pts_one h

/-- where a comprehension stands: acc is made so far, at D -/
structure LcSt (C : Cc) (W : WX) (vs : List Nat) (g : FG) (tt : FT) (el : FE) (xs : List D) (σ : L2.St) (Hs1 H1 : Hp) (P : Addr → Prop) (Dd : Addr) (Z : List D → En → Prop) (i : Nat) (H : Hp) : Prop where
  ex : ∃ (acc : List D) (e : En) (Hs : Hp) (fe fa : Fp) (va : List V), Aft Hs1 H1 Hs H P ∧ Ok C Hs H (wipe σ vs) (delL e vs) fe (fun b => fa b + if b = Dd then 1 else 0) P ∧ H Dd = some (.lst va) ∧ Rps C.toGc Hs H va acc fa ∧
    EndZ C W (lcL vs g tt el (xs.drop i) acc (delL e vs)) Hs H P σ Z

theorem lc_main {H0 : Hp} {C : Cc} {W : WX} {vs : List Nat} {ts : List Nat} {g : FG} {tt : FT} {el : FE} {xs : List D} {σ : L2.St} {Hs1 H1 : Hp} {P : Addr → Prop} {Dd : Addr} {Z : List D → En → Prop} {J : It} {QD : Hp → Prop}
    (hts : ∀ i ∈ ts, i ∈ vs) (hv : ∀ p ∈ C.pins, p.1 ∉ vs) (j : JOk C.toGc J xs Hs1 fun H2 => ∀ b od u, H0 b = some (.frz od u) → H2 b = some (.frz od u)) (e0 : ∀ b od u, H0 b = some (.frz od u) → H1 b = some (.frz od u)) (st : LcSt C W vs g tt el xs σ Hs1 H1 P Dd Z 0 H1)
    (fin : ∀ acc e Hs H fe fa va, Aft Hs1 H1 Hs H P → Ok C Hs H (wipe σ vs) (delL e vs) fe (fun b => fa b + if b = Dd then 1 else 0) P → H Dd = some (.lst va) → Rps C.toGc Hs H va acc fa → Z acc (delL e vs) → QD H) :
    ∃ Wn : Nat → Nat → Hp → Prop, (∃ m, Wn 0 m H1) ∧ ∀ i m H, Wn i m H →
      (J.stop i H ∧ QD H) ∨ (J.go i H ∧ ∃ Nx : Hp → Prop, (∀ H', Nx H' → ∃ m', m' < m ∧ Wn (i + 1) m' H') ∧ ∀ x H', J.yld i H x H' → canG C ts g x (wipe σ vs) H' fun σ2 H2 => wipe σ2 vs = wipe σ vs ∧ canT C W0 tt σ2 H2 fun b H3 =>
        if b = true then canE C W0 el σ2 H3 fun y H4 => ∃ acc, H4 Dd = some (.lst acc) ∧ acc.length < sizeLine ∧ Nx (upd H4 Dd (.lst (acc ++ [y]))) else Nx H3) := by
  refine ⟨fun i m H => i + m = xs.length ∧ LcSt C W vs g tt el xs σ Hs1 H1 P Dd Z i H, ⟨xs.length, by omega, st⟩, ?_⟩
  rintro i m H ⟨hm, ⟨acc, e, Hs, fe, fa, va, a2, ok2, hD, ra, q2⟩⟩
  have lk : ∀ b od u, H0 b = some (.frz od u) → H b = some (.frz od u) := fun b od u hb => a2.lk b od u (e0 b od u hb)
  by_cases hlt : i < xs.length
  · obtain ⟨d, hd⟩ : ∃ d, xs[i]? = some d := ⟨_, List.getElem?_eq_getElem hlt⟩
    have ed : xs.drop i = d :: xs.drop (i + 1) := by
      rw [List.drop_eq_getElem_cons hlt]
      rw [List.getElem?_eq_getElem hlt] at hd
      rw [Option.some.inj hd]
    rw [ed] at q2
    unfold lcL at q2
    refine .inr ⟨j.go Hs H i d a2.sh ok2.sm lk hd, fun H' => i + 1 + (m - 1) = xs.length ∧ LcSt C W vs g tt el xs σ Hs1 H1 P Dd Z (i + 1) H', fun H' h => ⟨m - 1, by omega, h⟩, fun x H' y => ?_⟩
    -- the list made so far is held
    have hR : Held (fun Hs' H' => H' Dd = some (.lst va) ∧ Rps C.toGc Hs' H' va acc fa) (fun b => fa b + if b = Dd then 1 else 0) Hs H :=
      ⟨⟨hD, ra⟩, fun Hs' H' s k => ⟨(k Dd (by rw [if_pos rfl]; omega)).1.trans hD, ra.mono s fun b hb => k b (by omega)⟩, fun b hb => by
        by_cases z : b = Dd
        · rw [z, hD]; intro z; cases z
        · rw [if_neg z] at hb; exact (ra.live b (by omega)).1⟩
    obtain ⟨Hs3, n3, r3⟩ := j.yld Hs H i d x H' a2.sh ok2.sm lk hd y
    have af3 : Aft Hs H Hs3 H' (fun b => P b ∨ fa b + (if b = Dd then 1 else 0) ≠ 0) := n3.aft (ok2.holdR hR)
    have okH := ok2.holdR hR
    have okH3 : Ok C Hs3 H' (wipe σ vs) (delL e vs) fe f0 (fun b => P b ∨ fa b + (if b = Dd then 1 else 0) ≠ 0) := (okH.new n3 fun _ h => absurd rfl h).fps (fun _ => rfl) fun _ => rfl
    have hold3 := hR.on ok2 af3
    cases hgx : g d (delL e vs) with
    | none => rw [hgx] at q2; exact q2.elim
    | some e4 =>
      rw [hgx] at q2
      dsimp only at q2
      refine ⟨delL e vs, Hs3, fe, f0, _, d, e4, okH3, r3, hgx, fun σ5 Hs5 H5 fe5 t5 a5 ok5 => ⟨wipe_tch t5 hts, ?_⟩⟩
      have af5 := af3.trans a5
      have hold5 := hR.on ok2 af5
      -- the test
      have q5 : EndZ C W0 (tt e4) Hs5 H5 (fun b => P b ∨ fa b + (if b = Dd then 1 else 0) ≠ 0) σ5 fun k e2 => EndZ C W (if k then (el e2).nox.bind fun y e3 => (if acc.length < lim then lcL vs g tt el (xs.drop (i + 1)) (acc ++ [y]) (delL e3 vs) else .bad) else lcL vs g tt el (xs.drop (i + 1)) acc (delL e2 vs)) Hs H P σ Z := by
        cases h : tt e4 with
        | bad => rw [h] at q2; exact q2.elim
        | exc x e => rw [h] at q2; exact q2.elim
        | ok k e2 => rw [h] at q2; exact q2
      refine firstT ok5 q5 fun k e6 Hs6 H6 fe6 a6 ok6 q6 => ?_
      have af6 := af5.trans a6
      have hold6 := hR.on ok2 af6
      -- the turn's end
      have turn : ∀ (acc' : List D) (e' : En) (Hs' H'' : Hp) (fe' fa' : Fp) (va' : List V) (σ' : L2.St), σ'.length = (wipe σ vs).length → (∀ i, i ∉ vs → σ'[i]? = (wipe σ vs)[i]?) → Aft Hs H Hs' H'' P → Ok C Hs' H'' σ' e' fe' (fun b => fa' b + if b = Dd then 1 else 0) P → H'' Dd = some (.lst va') → Rps C.toGc Hs' H'' va' acc' fa' →
          EndZ C W (lcL vs g tt el (xs.drop (i + 1)) acc' (delL e' vs)) Hs H P σ Z → i + 1 + (m - 1) = xs.length ∧ LcSt C W vs g tt el xs σ Hs1 H1 P Dd Z (i + 1) H'' := by
        intro acc' e' Hs' H'' fe' fa' va' σ' hl' ho' af' ok' hD' ra' q'
        obtain ⟨fe2, ok2'⟩ := ok'.delL vs
        refine ⟨by omega, ⟨acc', e', Hs', fe2, fa', va', a2.trans af', ?_, hD', ra', ?_⟩⟩
        · exact ok2'.frame hl'.symm (fun i d h => (ho' i fun z => delL_at z d h).symm) fun p hp => (ho' p.1 (hv p hp)).symm
        · cases hr : lcL vs g tt el (xs.drop (i + 1)) acc' (delL e' vs) with
          | bad => rw [hr] at q'; exact q'
          | ok a b => rw [hr] at q'; exact q'
          | exc x b => rw [hr] at q'; exact XcK.shift q' af'
      have t5' : σ5.length = (wipe σ vs).length ∧ ∀ i, i ∉ vs → σ5[i]? = (wipe σ vs)[i]? := ⟨t5.1, fun i hi => t5.2 i fun z => hi (hts i z)⟩
      cases k with
      | false =>
        refine iteF ?_
        have okb : Ok C Hs6 H6 σ5 e6 fe6 (fun b => (fa b + if b = Dd then 1 else 0) + f0 b) P := ok6.back (fun b => by have := ok2.wf.one b; omega) (fun b hb => by have := ok2.wf.apart b hb; omega) (fun b hb => ok2.wf.own b (by omega)) af6
        exact turn acc e6 Hs6 H6 fe6 fa va σ5 t5'.1 t5'.2 (af6.weak fun b hb => .inl hb) (okb.fps (fun _ => rfl) fun _ => rfl) hold6.1 hold6.2 q6
      | true =>
        refine iteT ?_
        have q7 : EndZ C W0 (el e6) Hs6 H6 (fun b => P b ∨ fa b + (if b = Dd then 1 else 0) ≠ 0) σ5 fun y e3 => EndZ C W (if acc.length < lim then lcL vs g tt el (xs.drop (i + 1)) (acc ++ [y]) (delL e3 vs) else .bad) Hs H P σ Z := by
          cases h : el e6 with
          | bad => simp only [if_true] at q6; rw [h] at q6; exact q6.elim
          | exc x e => simp only [if_true] at q6; rw [h] at q6; exact q6.elim
          | ok k e2 => simp only [if_true] at q6; rw [h] at q6; exact q6
        refine firstE ok6 q7 fun y e8 v8 Hs8 H8 fe8 fv8 a8 ok8 r8 q8 => ?_
        have af8 := af6.trans a8
        have hold8 := hR.on ok2 af8
        by_cases hl : acc.length < lim
        · rw [if_pos hl] at q8
          refine ⟨va, hold8.1, by rw [ra.len]; exact lim_lt (Nat.le_of_lt hl), ?_⟩
          have okb : Ok C Hs8 H8 σ5 e8 fe8 (fun b => (fa b + if b = Dd then 1 else 0) + fv8 b) P := ok8.back (fun b => by have := ok2.wf.one b; omega) (fun b hb => by have := ok2.wf.apart b hb; omega) (fun b hb => ok2.wf.own b (by omega)) af8
          have nD : Hs8 Dd = none := okb.wf.own Dd (by rw [if_pos rfl]; omega)
          have onD := okb.wf.one Dd
          rw [if_pos rfl] at onD
          have ne : ∀ b, (fe8 b ≠ 0 ∨ fa b ≠ 0 ∨ fv8 b ≠ 0) → b ≠ Dd := fun b hb z => by subst z; omega
          have up : ∀ b, b ≠ Dd → (upd H8 Dd (.lst (va ++ [v8]))) b = H8 b := fun b hb => upd_ne hb
          have afU : Aft Hs8 H8 Hs8 (upd H8 Dd (.lst (va ++ [v8]))) P := ⟨Same.refl _, fun b hb hn => ⟨up b fun z => by have := okb.wf.apart b hb; rw [if_pos z] at this; omega, hn⟩, fun b hb => by
            by_cases z : b = Dd
            · rw [z, upd_same] at hb; cases hb
            · rw [up b z] at hb; exact hb, fun b od u hb => (up b fun z => by rw [z] at hb; have h8 := hold8.1; rw [hb] at h8; cases h8).trans hb⟩
          have smU : Sm Hs8 (upd H8 Dd (.lst (va ++ [v8]))) := fun a u ha => by
            rw [up a fun z => by rw [z, nD] at ha; cases ha]; exact okb.wf.sm a u ha
          have keep : ∀ {f : Fp}, (∀ b, f b ≠ 0 → b ≠ Dd) → (∀ b, f b ≠ 0 → Hs8 b = none) → ∀ b, f b ≠ 0 → (upd H8 Dd (.lst (va ++ [v8]))) b = H8 b ∧ Hs8 b = none := fun h1 h2 b hb => ⟨up b (h1 b hb), h2 b hb⟩
          refine turn (acc ++ [y]) e8 Hs8 _ fe8 (fun b => fa b + fv8 b) (va ++ [v8]) σ5 t5'.1 t5'.2 ((af8.weak fun b hb => .inl hb).trans afU) ⟨⟨smU, fun b => by have := okb.wf.one b; omega, fun b hb => okb.wf.own b (by omega), fun b hb => by have := okb.wf.apart b hb; omega, fun b hb z => okb.wf.live b hb (afU.mono b z)⟩,
            okb.sl.mono (Same.refl _) (keep (fun b hb => ne b (.inl hb)) fun b hb => okb.wf.own b (by omega)), okb.pn, okb.ex.mono (Same.refl _)⟩ upd_same ?_ q8
          refine Rps.app (hold8.2.mono (Same.refl _) (keep (fun b hb => ne b (.inr (.inl hb))) fun b hb => okb.wf.own b (by omega))) (.cons (r8.mono (Same.refl _) (keep (fun b hb => ne b (.inr (.inr hb))) fun b hb => okb.wf.own b (by omega))) (.nil (f := f0) fun _ => rfl) (h := fv8) fun b => rfl) fun b => rfl
        · rw [if_neg hl] at q8; exact q8.elim
  · have ei : i = xs.length := by omega
    subst ei
    rw [List.drop_length] at q2
    exact .inl ⟨j.stop Hs H a2.sh ok2.sm lk, fin acc e Hs H fe fa va a2 ok2 hD ra q2⟩

section
variable {X : Cx} {C : Cc} {W : WX} {pos : Pos} {a tg elt : Expr} {ifs : List Expr} {Fi : FI} {ts : List Nat} {g : FG} {tt : FT} {el : FE}
theorem EndE.bindI {r : Rs (List D)} {k : List D → En → Rs D} {Hs H : Hp} {P : Addr → Prop} {σ : L2.St} {R : It → Hp → Prop} {Q : VK} (h : EndE C W (r.bind k) Hs H P σ Q)
    (hR : ∀ J xs e' Hs' H' fe' P', Ok C Hs' H' σ e' fe' f0 P' → JOk C.toGc J xs Hs' (fun H2 => ∀ b od u, H' b = some (.frz od u) → H2 b = some (.frz od u)) → EndE C W (k xs e') Hs' H' P' σ Q → R J H') : EndI C W r Hs H P σ R := by
  cases r with
  | bad => exact h
  | ok xs e' => exact fun J Hs' H' fe' P' hp a ok j => hR J xs e' Hs' H' fe' P' ok j ((h.shift a).unhold hp)
  | exc x e' => exact h
/-- the reading of a comprehension -/
theorem lc_read {wi : TI} {own : List (Str × Nat)} (hts : ∀ i ∈ ts, i ∈ own.map (·.2)) (hv : ∀ p ∈ C.pins, p.1 ∉ own.map (·.2)) {σ : L2.St} {H : Hp} {Q : VK} (h : canE C W (eLc (own.map (·.2)) Fi g tt el) σ H Q) :
    tLc (canI C W Fi) (canG C ts g) (canT C W0 tt) (canE C W0 el) (own.map (·.2)) σ H Q := by
  generalize own.map (·.2) = vs at hts hv h ⊢
  obtain ⟨e, Hs, fe, P0, ok, q⟩ := h
  refine ⟨e, Hs, fe, P0, ok, EndE.bindI q fun J xs e1 Hs1 H1 fe1 P ok1 j q1 => ?_⟩
  intro Dd hD
  obtain ⟨fe2, ok2⟩ := ok1.delL vs
  have ok3 := ok2.wipe hv
  have n := New.obj (o := .lst []) ok3.sm hD
  have ok4 := ok3.new n fun b hb => absurd rfl hb
  have ok5 : Ok C Hs1 (upd H1 Dd (.lst [])) (wipe σ vs) (delL e1 vs) fe2 (fun b => f0 b + if b = Dd then 1 else 0) P := ok4
  have af : Aft Hs1 H1 Hs1 (upd H1 Dd (.lst [])) P := n.aft ok3
  refine lc_main (W := W) (xs := xs) (el := el) (tt := tt) (P := P) (Z := fun acc e2 => EndE C W (.ok (.nd .lst true acc) e2) Hs1 (upd H1 Dd (.lst [])) P σ Q) hts hv j af.lk ⟨[], e1, Hs1, fe2, f0, [], Aft.refl _ _ _, ok5, upd_same, .nil fun _ => rfl, ?_⟩ ?_
  · have q2 := q1.shift af
    rw [List.drop_zero]
    cases hr : lcL vs g tt el xs [] (delL e1 vs) with
    | bad => rw [hr] at q2; exact q2
    | ok acc e2 => rw [hr] at q2; exact q2
    | exc x e2 => rw [hr] at q2; exact fun dd H2s H2 fe' b ok ex => q2 dd H2s H2 fe' b ok ex
  · intro acc e2 Hs2 H2 fe2 fa va a2 ok2 hl ra z
    refine z (.ref Dd) Hs2 H2 fe2 (fun b => fa b + if b = Dd then 1 else 0) a2 (ok2.unwipe hv) ?_
    exact .own hl rfl (ok2.wf.own Dd (by rw [if_pos rfl]; omega)) ra fun b => rfl
theorem be_lc {scope : Scope} {own : List (Str × Nat)} (hc : X.calm = true) (hN : X.N.Nodup) (hi : BI X C W tg a Fi) (ok : BlkOk X.N X.env.scope scope own) (hts : ∀ i ∈ ts, i ∈ own.map (·.2)) (hv : ∀ p ∈ C.pins, p.1 ∉ own.map (·.2))
    (hg : ∀ (s : Shared) (H : Hp) (Ca : Addr) (cl : List (Str × Addr)) (fp : List Addr), BG (X.blk s H scope (compEnvC scope cl Ca X.env) fp) C tg ts g)
    (ht : ∀ (s : Shared) (H : Hp) (Ca : Addr) (cl : List (Str × Addr)) (fp : List Addr), BTs (X.blk s H scope (compEnvC scope cl Ca X.env) fp) C W0 ifs tt)
    (he : ∀ (s : Shared) (H : Hp) (Ca : Addr) (cl : List (Str × Addr)) (fp : List Addr), BE (X.blk s H scope (compEnvC scope cl Ca X.env) fp) C W0 elt el) (hf : ∀ x, foldedSetIterable a X.env x = pure x) :
    BE X C W (.ListComp elt [⟨tg, a, ifs, 0⟩] scope pos) (eLc (own.map (·.2)) Fi g tt el) :=
  (pe_lc hc hN hi ok hg ht he hf).imp fun σ H Q h => lc_read (wi := canI C W Fi) hts hv h
theorem bs_setLc {i : Nat} {y : Str} {py spos : Pos} {scope : Scope} {own : List (Str × Nat)} (hc : X.calm = true) (hN : X.N.Nodup) (hy : X.N[i]? = some y) (hyl : X.env.scope.names.lookup y = some .local) (hp : npin C i)
    (hsw : swapsWith (.ListComp elt [⟨tg, a, ifs, 0⟩] scope pos) (some (.Name y py)) spos.line X.env = pure true) (hi : BI X C W tg a Fi) (ok : BlkOk X.N X.env.scope scope own) (hts : ∀ i ∈ ts, i ∈ own.map (·.2)) (hv : ∀ p ∈ C.pins, p.1 ∉ own.map (·.2))
    (hg : ∀ (s : Shared) (H : Hp) (Ca : Addr) (cl : List (Str × Addr)) (fp : List Addr), BG (X.blk s H scope (compEnvC scope cl Ca X.env) fp) C tg ts g)
    (ht : ∀ (s : Shared) (H : Hp) (Ca : Addr) (cl : List (Str × Addr)) (fp : List Addr), BTs (X.blk s H scope (compEnvC scope cl Ca X.env) fp) C W0 ifs tt)
    (he : ∀ (s : Shared) (H : Hp) (Ca : Addr) (cl : List (Str × Addr)) (fp : List Addr), BE (X.blk s H scope (compEnvC scope cl Ca X.env) fp) C W0 elt el) (hf : ∀ x, foldedSetIterable a X.env x = pure x) :
    BS X C W (.Assign [.Name y py] (.ListComp elt [⟨tg, a, ifs, 0⟩] scope pos) spos) (fAsg (gN i) (eLc (own.map (·.2)) Fi g tt el)) :=
  (ps_setLc hc hN hy hyl hsw hi ok hg ht he hf).imp fun N σ H ⟨e, Hs, fe, P, ok, q⟩ => by
    refine lc_read (wi := canI C W Fi) hts hv (W := W) (firstE ok (q.bind σ) fun d e1 v Hs1 H1 fe1 fv1 a1 ok1 r1 q1 => ?_)
    unfold gN at q1
    by_cases hi : i < e1.sl.length
    · rw [if_pos hi] at q1
      obtain ⟨fe', ok'⟩ := (ok1.fps (fun _ => rfl) (fx' := fun b => fv1 b + f0 b) fun _ => rfl).put r1 hi hp
      exact q1 _ Hs1 H1 fe' a1 ok'
    · rw [if_neg hi] at q1; exact q1.elim
end
end Bx

set_option Elab.async false
set_option linter.all false
set_option maxRecDepth 100000
set_option maxHeartbeats 1000000
/-! What a name holds is changed: items stored, lists grown. -/
namespace Bx
open PySem L2

section
variable {C : Cc} {Hs H : Hp} {σ : L2.St} {e : En} {fe fx : Fp} {P : Addr → Prop}
/-- an owned object is changed -/
theorem Ok.chg {a : Addr} {o : HO} (ok : Ok C Hs H σ e fe fx P) (ha : fx a ≠ 0) (nf : ∀ od u, H a ≠ some (.frz od u)) : Ok C Hs (upd H a o) σ e fe fx P ∧ Aft Hs H Hs (L2.upd H a o) P := by
  have up : ∀ b, b ≠ a → (L2.upd H a o) b = H b := fun b hb => upd_ne hb
  have nHs : Hs a = none := ok.wf.own a (by omega)
  have mono : ∀ b, (L2.upd H a o) b = none → H b = none := fun b hb => by
    by_cases z : b = a
    · rw [z, upd_same] at hb; cases hb
    · rw [up b z] at hb; exact hb
  have hP : ∀ b, P b → b ≠ a := fun b hb z => by have := ok.wf.apart b hb; rw [z] at this; omega
  refine ⟨⟨⟨fun b u hb => ?_, ok.wf.one, ok.wf.own, ok.wf.apart, fun b hb z => ok.wf.live b hb (mono b z)⟩, ok.sl.mono (Same.refl _) fun b hb => ⟨up b fun z => ?_, ok.wf.own b (by omega)⟩, ok.pn, ok.ex.mono (Same.refl _)⟩, ⟨Same.refl _, fun b hb hn => ⟨up b (hP b hb), hn⟩, mono, fun b od u hb => (up b fun z => nf od u (z ▸ hb)).trans hb⟩⟩
  · rw [up b fun z => by rw [z, nHs] at hb; cases hb]; exact ok.wf.sm b u hb
  · have := ok.wf.one b; rw [z] at this hb; omega
end
section
variable {G : Gc} {Hs H : Hp}
/-- one of them is put in another's place -/
theorem rps_set : ∀ {vs : List V} {ds : List D} {f : Fp} {i : Nat} {v : V} {d : D} {g : Fp}, Rps G Hs H vs ds f → i < ds.length → Rp G Hs H v d g → ∃ (f1 f2 : Fp), (∀ b, f b = f1 b + f2 b) ∧ Rps G Hs H (vs.set i v) (ds.set i d) (fun b => g b + f2 b)
  | _, _, _, i, _, _, _, .nil _, h, _ => by simp at h
  | _, _, _, 0, _, _, _, .cons (f := f1) (g := g1) r rs e, h, r2 => ⟨f1, g1, e, .cons r2 rs fun b => rfl⟩
  | _, _, _, i + 1, _, _, g, .cons (f := f1) (g := g1) r rs e, h, r2 => by
    obtain ⟨a1, a2, h1, h2⟩ := rps_set rs (i := i) (by simpa using h) r2
    exact ⟨a1, fun b => f1 b + a2 b, fun b => by rw [e b, h1 b]; show _ = a1 b + (f1 b + a2 b); omega, .cons r h2 fun b => by show g b + (f1 b + a2 b) = f1 b + (g b + a2 b); omega⟩
end
theorem kpos_cons {κ : Type} [DecidableEq κ] {k k' : κ} {ks : List κ} : kpos (k' :: ks) k = if k' = k then some 0 else (kpos ks k).map (· + 1) := rfl
theorem any_kpos {κ : Type} [DecidableEq κ] {k : κ} : ∀ {ks : List κ} {vs : List V}, ks.length = vs.length → ((ks.zip vs).any fun kv => decide (kv.1 = k)) = (kpos ks k).isSome
  | [], [], _ => rfl
  | [], _ :: _, h => by cases h
  | _ :: _, [], h => by cases h
  | k' :: ks, v :: vs, h => by
    have ih := any_kpos (k := k) (ks := ks) (vs := vs) (by simpa using h)
    rw [List.zip_cons_cons, List.any_cons, ih, kpos_cons]
    by_cases e : k' = k
    · simp [e]
    · simp [e]
theorem kpos_mem {κ : Type} [DecidableEq κ] {k : κ} : ∀ {ks : List κ}, (kpos ks k).isSome = true ↔ k ∈ ks
  | [] => by simp [kpos]
  | k' :: ks => by
    rw [kpos_cons]
    by_cases e : k' = k
    · simp [e]
    · have ih := kpos_mem (k := k) (ks := ks)
      simp only [if_neg e, Option.isSome_map, List.mem_cons]
      constructor
      · intro h; exact .inr (ih.mp h)
      · rintro (h | h)
        · exact absurd h.symm e
        · exact ih.mpr h
theorem map_out {κ : Type} [DecidableEq κ] {k : κ} {v : V} : ∀ {ks : List κ} {vs : List V}, k ∉ ks → (ks.zip vs).map (fun kv => if kv.1 = k then (kv.1, v) else kv) = ks.zip vs
  | [], _, _ => rfl
  | _ :: _, [], _ => rfl
  | k' :: ks, w :: vs, h => by
    rw [List.zip_cons_cons, List.map_cons, map_out (fun z => h (List.mem_cons_of_mem _ z)), if_neg fun z => h (by rw [show k = k' from z.symm]; exact List.mem_cons_self)]
theorem map_set {κ : Type} [DecidableEq κ] {k : κ} {v : V} : ∀ {ks : List κ} {vs : List V} {j : Nat}, ks.Nodup → ks.length = vs.length → kpos ks k = some j → (ks.zip vs).map (fun kv => if kv.1 = k then (kv.1, v) else kv) = ks.zip (vs.set j v)
  | [], _, _, _, _, h => by cases h
  | _ :: _, [], _, _, h, _ => by cases h
  | k' :: ks, w :: vs, j, nd, hl, h => by
    unfold kpos at h
    by_cases e : k' = k
    · rw [if_pos e] at h
      cases h
      rw [List.zip_cons_cons, List.map_cons, if_pos e, List.set_cons_zero, List.zip_cons_cons]
      rw [map_out (by rw [← e]; exact (List.nodup_cons.mp nd).1)]
    · rw [if_neg e] at h
      obtain ⟨i, h1, rfl⟩ := Option.map_eq_some_iff.mp h
      rw [List.zip_cons_cons, List.map_cons, if_neg e, List.set_cons_succ, List.zip_cons_cons, map_set (List.nodup_cons.mp nd).2 (by simpa using hl) h1]
theorem putK_old {κ : Type} [DecidableEq κ] {k : κ} {v : V} {ks : List κ} {vs : List V} {j : Nat} (nd : ks.Nodup) (hl : ks.length = vs.length) (h : kpos ks k = some j) : putK (ks.zip vs) k v = ks.zip (vs.set j v) := by
  unfold putK
  rw [any_kpos hl, h]
  exact map_set nd hl h
theorem putK_fresh {κ : Type} [DecidableEq κ] {k : κ} {v : V} {ks : List κ} {vs : List V} (hl : ks.length = vs.length) (h : kpos ks k = none) : putK (ks.zip vs) k v = (ks ++ [k]).zip (vs ++ [v]) := by
  unfold putK
  rw [any_kpos hl, h]
  show (ks.zip vs) ++ [(k, v)] = _
  rw [List.zip_append hl]; rfl

theorem nFlat_len : ∀ {es : NEs}, (es.flatMap fun p => [p.2.1, p.2.2]).length = 2 * es.length
  | [] => rfl
  | p :: es => by
    rw [List.flatMap_cons, List.length_append, nFlat_len, show (p :: es).length = es.length + 1 from rfl]
    show 2 + _ = _
    omega
theorem nAt_some {k : NestedKey} {es : NEs} : (nAt es k).isSome = (kpos (es.map (·.1)) k).isSome := by
  induction es with
  | nil => rfl
  | cons p es ih =>
    rw [List.map_cons, kpos_cons]
    by_cases e : p.1 = k
    · rw [if_pos e, show nAt (p :: es) k = some p.2.2 by unfold nAt; rw [List.find?_cons, decide_eq_true e]; rfl]; rfl
    · rw [if_neg e, show nAt (p :: es) k = nAt es k by unfold nAt; rw [List.find?_cons, decide_eq_false e], ih, Option.isSome_map]
theorem nPut_fresh {k : NestedKey} {es : NEs} {y v : V} (h : kpos (es.map (·.1)) k = none) : nPut es k y v = es ++ [(k, y, v)] := by
  unfold nPut
  rw [nAt_some, h]; rfl
theorem nMap_out {k : NestedKey} {v : V} : ∀ {es : NEs}, k ∉ es.map (·.1) → (es.map fun p => if p.1 = k then (p.1, p.2.1, v) else p) = es
  | [], _ => rfl
  | p :: es, h => by
    rw [List.map_cons, List.mem_cons, not_or] at h
    rw [List.map_cons, nMap_out h.2, if_neg fun z => h.1 z.symm]
theorem nPut_old {k : NestedKey} {y v : V} {es : NEs} {j : Nat} (nd : (es.map (·.1)).Nodup) (h : kpos (es.map (·.1)) k = some j) :
    (nPut es k y v).map (·.1) = es.map (·.1) ∧ (nPut es k y v).flatMap (fun p => [p.2.1, p.2.2]) = (es.flatMap fun p => [p.2.1, p.2.2]).set (2 * j + 1) v := by
  have main : ∀ {es : NEs} {j : Nat}, (es.map (·.1)).Nodup → kpos (es.map (·.1)) k = some j → (es.map fun p => if p.1 = k then (p.1, p.2.1, v) else p).map (·.1) = es.map (·.1) ∧ (es.map fun p => if p.1 = k then (p.1, p.2.1, v) else p).flatMap (fun p => [p.2.1, p.2.2]) = (es.flatMap fun p => [p.2.1, p.2.2]).set (2 * j + 1) v := by
    intro es
    induction es with
    | nil => intro j _ h; cases h
    | cons p es ih =>
      intro j nd h
      rw [List.map_cons, kpos_cons] at h
      rw [List.map_cons, List.nodup_cons] at nd
      by_cases e : p.1 = k
      · rw [if_pos e] at h
        cases h
        rw [List.map_cons, if_pos e, nMap_out (by rw [← e]; exact nd.1)]
        exact ⟨rfl, rfl⟩
      · rw [if_neg e] at h
        obtain ⟨i, h1, rfl⟩ := Option.map_eq_some_iff.mp h
        obtain ⟨a, b⟩ := ih nd.2 h1
        rw [List.map_cons, if_neg e, List.map_cons, List.map_cons, a, List.flatMap_cons, b, List.flatMap_cons]
        refine ⟨rfl, ?_⟩
        show _ = (p.2.1 :: p.2.2 :: _).set (2 * i + 1 + 1 + 1) v
        rfl
  have := main (es := es) nd h
  unfold nPut
  rw [nAt_some, h]
  exact this
/-- x[y] = d, what x holds being k, xs -/
def setD (k : Kd) (xs : List D) (y d : D) : Option D := match k with
  | .lst => (match y with
    | .int i => (ixN xs.length i).map fun j => .nd .lst true (xs.set j d)
    | _ => none)
  | .dk ks => (keyD y).bind fun key => if xs.length < lim then some (match kpos ks key with
    | some j => .nd (.dk ks) true (xs.set j d)
    | none => .nd (.dk (ks ++ [key])) true (xs ++ [d])) else none
  | .dt ks => (tkeyD y).bind fun key => if xs.length < lim then some (match kpos ks key with
    | some j => .nd (.dt ks) true (xs.set j d)
    | none => .nd (.dt (ks ++ [key])) true (xs ++ [d])) else none
  | .dn ks => (tnkD y).bind fun key => if keysOk ks xs = true ∧ xs.length < lim then some (match kpos ks key with
    | some j => .nd (.dn ks) true (xs.set (2 * j + 1) d)
    | none => .nd (.dn (ks ++ [key])) true (xs ++ [y, d])) else none
  | _ => none
/-- a slot's owned node -/
def En.own (e : En) (i : Nat) : Option (Kd × List D) := match e.sl[i]? with
  | some (some (.nd k true xs)) => some (k, xs)
  | _ => none
def So.opt (o : Option En) : So := match o with
  | some e => .nx e
  | none => .bad
def fSetN (i : Nat) (b a : FE) : FS := fun e => (a e).toS fun d e1 => if (e1.own i).isSome then (b e1).toS fun y e2 => .opt ((e2.own i).bind fun (k, xs) => (setD k xs (frz y) d).map fun d' => e2.put i d') else .bad
theorem En.own_some {e : En} {i : Nat} {k : Kd} {xs : List D} (h : e.own i = some (k, xs)) : e.sl[i]? = some (some (.nd k true xs)) := by
  unfold En.own at h
  split at h
  · rename_i k' xs' h'; cases h; exact h'
  · cases h

def rSetB (K : PySem.W.Frag) (P : Program) (w : World) : TSet := fun o i v H Q => rSetD o i v H Q ∨ rNPut K P w o i v H Q
def rSetA (K : PySem.W.Frag) (P : Program) (w : World) : TSet := fun o i v H Q => rSetL o i v H Q ∨ rSetB K P w o i v H Q
theorem set_A {X : Cx} (hu : X.A.units + 64 < cLine) : PSet X (rSetA X.K X.prog X.w) := fun pins s σ H o i v ov iv u Q I ro ri rv h => h.elim (set_list pins s σ H o i v ov iv u Q I ro ri rv) fun h => h.elim (set_dict (by omega) pins s σ H o i v ov iv u Q I ro ri rv) (set_ndict hu pins s σ H o i v ov iv u Q I ro ri rv)

section
variable {C : Cc} {Hs H : Hp} {σ : L2.St} {e : En} {fe fx : Fp} {P : Addr → Prop}
/-- the store itself: a value at hand goes into the slot's node -/
theorem Ok.store' {i : Nat} {k : Kd} {xs : List D} {y d d' : D} {w u v0 : V} {fd : Fp} (ok : Ok C Hs H σ e fe fd P) (ho : e.own i = some (k, xs)) (hv : σ[i]? = some (some v0)) (ry : Rp C.toGc Hs H w y f0) (rd : Rp C.toGc Hs H u d fd) (hs : setD k xs y d = some d') {Q : Hp → Prop}
    (q : ∀ H' fe', Aft Hs H Hs H' P → Ok C Hs H' σ (e.put i d') fe' f0 P → Q H') : (k = .lst ∧ rSetL v0 w u H Q) ∨ (k ≠ .lst ∧ rSetB C.K C.P C.w v0 w u H Q) := by
  obtain ⟨v, f1, f2, e1, r1, e2, ok1, put⟩ := ok.slot (En.own_some ho)
  rw [hv] at e1; cases e1
  cases r1 with
  | @own a _ vs _ g _ at_ hw nHs rs eg =>
    have ha1 : f1 a ≠ 0 := by rw [eg a, if_pos rfl]; omega
    have hl := rs.len
    have one := ok1.wf.one
    -- the new node
    have main : ∀ (k' : Kd) (vs' : List V) (xs' : List D) (fn : Fp) (o : HO), At C.toGc (upd H a o) a k' vs' → k'.ow = true → (∀ b, fn b ≤ g b + fd b) → Rps C.toGc Hs (upd H a o) vs' xs' fn → Q (upd H a o) ∨ (∃ fe', Aft Hs H Hs (upd H a o) P ∧ Ok C Hs (upd H a o) σ (e.put i (.nd k' true xs')) fe' f0 P) := by
      intro k' vs' xs' fn o at' w' le rs'
      right
      obtain ⟨ok2, af⟩ := ok1.chg (o := o) (a := a) (by omega) (at_.nofrz hw)
      have ok3 : Ok C Hs (upd H a o) σ { e with sl := e.sl.set i none } f2 (fun b => (fn b + if b = a then 1 else 0) + f0 b) P := ok2.less fun b => by have := le b; have := eg b; show fn b + (if b = a then 1 else 0) + 0 ≤ f1 b + fd b; omega
      exact ⟨_, af, put (e' := e) ok3 (.own at' w' nHs rs' fun b => rfl)⟩
    -- the parts stand behind the store
    have up : ∀ (o : HO) b, b ≠ a → (upd H a o) b = H b := fun o b hb => upd_ne hb
    have g_a : g a = 0 := by have := one a; have := eg a; rw [if_pos rfl] at this; omega
    have fd_a : fd a = 0 := by have := one a; have := eg a; rw [if_pos rfl] at this; omega
    have rs_up : ∀ o, Rps C.toGc Hs (upd H a o) vs xs g := fun o => rs.mono (Same.refl _) fun b hb => ⟨up o b fun z => hb (by rw [z]; exact g_a), (rs.live b hb).2⟩
    have rd_up : ∀ o, Rp C.toGc Hs (upd H a o) u d fd := fun o => rd.mono (Same.refl _) fun b hb => ⟨up o b fun z => hb (by rw [z]; exact fd_a), (rd.live b hb).2⟩
    have fin : ∀ {k' : Kd} {vs' : List V} {xs' : List D} {fn : Fp} {o : HO}, At C.toGc (upd H a o) a k' vs' → k'.ow = true → (∀ b, fn b ≤ g b + fd b) → Rps C.toGc Hs (upd H a o) vs' xs' fn → d' = .nd k' true xs' → Q (upd H a o) := by
      intro k' vs' xs' fn o h1 h2 h3 h4 h5
      rcases main k' vs' xs' fn o h1 h2 h3 h4 with h | ⟨fe', af, okf⟩
      · exact h
      · rw [h5] at q; exact q _ fe' af okf
    unfold setD at hs
    cases k with
    | lst =>
      dsimp only at hs
      split at hs
      · rename_i i'
        obtain ⟨j, hj, rfl⟩ := Option.map_eq_some_iff.mp hs
        rw [ry.toI]
        obtain ⟨f1', f2', h1, h2⟩ := rps_set (rs_up (.lst (vs.set j u))) (i := j) (by
          unfold ixN at hj
          split at hj
          · split at hj
            · cases hj; omega
            · cases hj
          · split at hj
            · cases hj; omega
            · cases hj) (rd_up _)
        exact .inl ⟨rfl, a, vs, i', j, rfl, rfl, at_, by rw [hl]; exact hj, fin (k' := .lst) upd_same rfl (fun b => by have := h1 b; show fd b + f2' b ≤ _; omega) h2 rfl⟩
      · cases hs
    | dk ks =>
      obtain ⟨key, hk, hs⟩ := Option.bind_eq_some_iff.mp hs
      have hlk : (ks.zip vs).length = xs.length := by rw [List.length_zip, at_.1.1, Nat.min_self, hl]
      by_cases hlim : xs.length < lim
      rotate_left
      · rw [if_neg hlim] at hs; cases hs
      rw [if_pos hlim] at hs
      split at hs
      · rename_i j hj
        cases hs
        obtain ⟨f1', f2', h1, h2⟩ := rps_set (rs_up (.dK (ks.zip (vs.set j u)))) (i := j) (by have := kpos_lt hj; have := at_.1.1; omega) (rd_up _)
        refine .inr ⟨(fun z => nomatch z), .inl ⟨a, _, rfl, .inl ⟨_, key, at_.2, keyD_rp ry hk, by rw [hlk]; exact lim_lt (Nat.le_of_lt hlim), by rw [putK_old at_.1.2 at_.1.1 hj]⟩, fin (k' := .dk ks) ⟨⟨by rw [List.length_set]; exact at_.1.1, at_.1.2⟩, upd_same⟩ rfl (fun b => by have := h1 b; show fd b + f2' b ≤ _; omega) h2 rfl⟩⟩
      · rename_i hj
        · cases hs
          refine .inr ⟨(fun z => nomatch z), .inl ⟨a, _, rfl, .inl ⟨_, key, at_.2, keyD_rp ry hk, by rw [hlk]; exact lim_lt (Nat.le_of_lt hlim), by rw [putK_fresh at_.1.1 hj]⟩, fin (k' := .dk (ks ++ [key])) (fn := fun b => g b + fd b) ⟨⟨by simp [at_.1.1], ?_⟩, upd_same⟩ rfl (fun b => Nat.le_refl _) ((rs_up _).app (.cons (rd_up _) (.nil (f := f0) fun _ => rfl) (h := fd) fun b => rfl) fun b => rfl) rfl⟩⟩
          rw [List.nodup_append]
          refine ⟨at_.1.2, by simp, fun x hx y hy => ?_⟩
          rw [List.mem_singleton] at hy
          subst hy
          intro z; subst z
          have := kpos_mem.mpr hx
          rw [hj] at this; cases this
    | dt ks =>
      obtain ⟨key, hk, hs⟩ := Option.bind_eq_some_iff.mp hs
      have hlk : (ks.zip vs).length = xs.length := by rw [List.length_zip, at_.1.1, Nat.min_self, hl]
      obtain ⟨bk, rfl, hbk⟩ := tkeyD_rp ok.sm ry hk
      by_cases hlim : xs.length < lim
      rotate_left
      · rw [if_neg hlim] at hs; cases hs
      rw [if_pos hlim] at hs
      split at hs
      · rename_i j hj
        cases hs
        obtain ⟨f1', f2', h1, h2⟩ := rps_set (rs_up (.dT (ks.zip (vs.set j u)))) (i := j) (by have := kpos_lt hj; have := at_.1.1; omega) (rd_up _)
        refine .inr ⟨(fun z => nomatch z), .inl ⟨a, _, rfl, .inr ⟨_, key, bk, at_.2, rfl, hbk, by rw [hlk]; exact lim_lt (Nat.le_of_lt hlim), by rw [putK_old at_.1.2 at_.1.1 hj]⟩, fin (k' := .dt ks) ⟨⟨by rw [List.length_set]; exact at_.1.1, at_.1.2⟩, upd_same⟩ rfl (fun b => by have := h1 b; show fd b + f2' b ≤ _; omega) h2 rfl⟩⟩
      · rename_i hj
        · cases hs
          refine .inr ⟨(fun z => nomatch z), .inl ⟨a, _, rfl, .inr ⟨_, key, bk, at_.2, rfl, hbk, by rw [hlk]; exact lim_lt (Nat.le_of_lt hlim), by rw [putK_fresh at_.1.1 hj]⟩, fin (k' := .dt (ks ++ [key])) (fn := fun b => g b + fd b) ⟨⟨by simp [at_.1.1], ?_⟩, upd_same⟩ rfl (fun b => Nat.le_refl _) ((rs_up _).app (.cons (rd_up _) (.nil (f := f0) fun _ => rfl) (h := fd) fun b => rfl) fun b => rfl) rfl⟩⟩
          rw [List.nodup_append]
          refine ⟨at_.1.2, by simp, fun x hx y hy => ?_⟩
          rw [List.mem_singleton] at hy
          subst hy
          intro z; subst z
          have := kpos_mem.mpr hx
          rw [hj] at this; cases this
    | dn ks =>
      obtain ⟨key, hk, hs⟩ := Option.bind_eq_some_iff.mp hs
      by_cases hc : keysOk ks xs = true ∧ xs.length < lim
      rotate_left
      · rw [if_neg hc] at hs; cases hs
      rw [if_pos hc] at hs
      obtain ⟨es, ⟨rfl, nd, rfl⟩, hH⟩ := at_
      obtain ⟨⟨bk, rfl⟩, hy⟩ := tnkD_rp ok.sm ry hk
      have hlen : es.length < sizeLine := lim_lt (by have h1 := hc.2; rw [← hl, nFlat_len] at h1; omega)
      have go : ∀ {xs' : List D} {fn : Fp}, (nPut es key (.ref bk) u).map (·.1) = (nPut es key (.ref bk) u).map (·.1) → ((nPut es key (.ref bk) u).map (·.1)).Nodup → (∀ b, fn b ≤ g b + fd b) → Rps C.toGc Hs (upd H a (nDict C.P C.w a (nPut es key (.ref bk) u))) ((nPut es key (.ref bk) u).flatMap fun p => [p.2.1, p.2.2]) xs' fn → d' = .nd (.dn ((nPut es key (.ref bk) u).map (·.1))) true xs' → rSetB C.K C.P C.w (.ref a) (.ref bk) u H Q := fun _ n2 le r2 e2 =>
        .inr ⟨a, es, key, bk, rfl, hH, rfl, hy, keysOk_all ok.sm rs hc.1, hlen, fin (k' := .dn _) ⟨_, ⟨rfl, n2, rfl⟩, upd_same⟩ rfl le r2 e2⟩
      refine .inr ⟨(fun z => nomatch z), ?_⟩
      split at hs
      · rename_i j hj
        cases hs
        have old := nPut_old (y := V.ref bk) (v := u) nd hj
        obtain ⟨f1', f2', h1, h2⟩ := rps_set (rs_up (nDict C.P C.w a (nPut es key (.ref bk) u))) (i := 2 * j + 1) (by
          have := kpos_lt hj
          rw [List.length_map] at this
          rw [← hl, nFlat_len]
          omega) (rd_up _)
        refine go rfl (by rw [old.1]; exact nd) (fun b => ?_) (by rw [old.2]; exact h2) (by rw [old.1])
        have := h1 b; show fd b + f2' b ≤ _; omega
      · rename_i hj
        cases hs
        have new := nPut_fresh (y := V.ref bk) (v := u) hj
        have e1 : (nPut es key (.ref bk) u).map (·.1) = es.map (·.1) ++ [key] := by rw [new, List.map_append]; rfl
        have e2 : (nPut es key (.ref bk) u).flatMap (fun p => [p.2.1, p.2.2]) = (es.flatMap fun p => [p.2.1, p.2.2]) ++ [.ref bk, u] := by rw [new, List.flatMap_append]; rfl
        refine go (fn := fun b => g b + fd b) rfl ?_ (fun b => Nat.le_refl _) (by rw [e2]; exact (rs_up _).app (.cons (ry.mono (Same.refl _) fun b hb => absurd rfl hb) (.cons (rd_up _) (.nil (f := f0) fun _ => rfl) (h := fd) fun b => rfl) (h := fd) fun b => by show fd b = 0 + fd b; omega) fun b => rfl) (by rw [e1])
        rw [e1, List.nodup_append]
        refine ⟨nd, by simp, fun x hx y hy => ?_⟩
        rw [List.mem_singleton] at hy
        subst hy
        intro z; subst z
        have := kpos_mem.mpr hx
        rw [hj] at this; cases this
    | _ => cases hs
theorem Ok.store {i : Nat} {k : Kd} {xs : List D} {y d d' : D} {w u v0 : V} {fd : Fp} (ok : Ok C Hs H σ e fe fd P) (ho : e.own i = some (k, xs)) (hv : σ[i]? = some (some v0)) (ry : Rp C.toGc Hs H w y f0) (rd : Rp C.toGc Hs H u d fd) (hs : setD k xs y d = some d') {Q : Hp → Prop}
    (q : ∀ H' fe', Aft Hs H Hs H' P → Ok C Hs H' σ (e.put i d') fe' f0 P → Q H') : rSetA C.K C.P C.w v0 w u H Q :=
  (ok.store' ho hv ry rd hs q).elim (fun h => .inl h.2) fun h => .inr h.2
end

/-- a slot's owned list -/
def En.ownL (e : En) (i : Nat) : Option (List D) := match e.sl[i]? with
  | some (some (.nd .lst true xs)) => some xs
  | _ => none
theorem En.ownL_some {e : En} {i : Nat} {xs : List D} (h : e.ownL i = some xs) : e.sl[i]? = some (some (.nd .lst true xs)) := by
  unfold En.ownL at h
  split at h
  · rename_i xs' h'; cases h; exact h'
  · cases h
/-- list.append(x) by a name -/
def eAppN (i : Nat) (a : FE) : FE := fun e => if (e.ownL i).isSome then (a e).bind fun d e1 => (match e1.ownL i with
  | some xs => if xs.length < lim then .ok .non (e1.put i (.nd .lst true (xs ++ [d]))) else .bad
  | none => .bad) else .bad
/-- x op= a, x a scalar -/
def fAug (i : Nat) (g : D → D → Option D) (a : FE) : FS := fun e => match e.sl[i]? with
  | some (some d) => if d.sc then (a e).toS fun y e1 => .opt ((g d (frz y)).map fun z => e1.put i z) else .bad
  | _ => .bad
/-- x[y] op= a, x a list, its item a scalar -/
def fAugN (i : Nat) (g : D → D → Option D) (b a : FE) : FS := fun e => if (e.own i).isSome then (b e).toS fun y e1 => (match e1.own i with
  | some (.lst, xs) => (match cpos (.nd .lst true xs) (frz y) with
    | some j => (match xs[j]? with
      | some d => if d.sc then (a e1).toS fun w e2 => .opt ((g d (frz w)).bind fun z => (e2.ownL i).bind fun xs => (setD .lst xs (frz y) z).map fun d' => e2.put i d') else .bad
      | none => .bad)
    | none => .bad)
  | _ => .bad) else .bad
theorem pget_list {X : Cx} : PGet X (rIxL X.K) := by
  intro pins s σ H x y v u Q I rx ry h
  obtain ⟨p, xs, i, z, rfl, rfl, hq, he, q⟩ := h
  cases rx
  obtain ⟨t, rfl⟩ := ry
  obtain ⟨its, r, pl, hz⟩ := I.list hq
  obtain ⟨j, h1, h2, h3, h4, h5⟩ := atI_get he
  obtain ⟨w, ew, rw'⟩ := r.get h2
  have hl := r.length
  have hn := line63
  have fin : EP X pins σ Q w s := ⟨z, H, I, rw', q⟩
  by_cases h0 : 0 ≤ i
  · have hj : i.toNat = j := by
      rw [seqIndex_of h0 h5] at h1
      exact Option.some.inj h1
    exact wpAny_getItem_list pl.isList h0 (by omega) (by rw [hj]; simpa using ew) fin
  · have hj : (i + (its.toArray.size : Int)).toNat = j := by
      rw [seqIndex_neg (by omega) h4] at h1
      rw [List.size_toArray, ← hl]
      exact Option.some.inj h1
    exact wpAny_getItem_list_neg pl.isList (by omega) (by rw [List.size_toArray] <;> omega) (by omega) (by rw [hj]; simpa using ew) fin

section
variable {X : Cx} {C : Cc} {W : WX} {pos : Pos} {a b c : Expr} {Fa Fb : FE} {st : Stmt} {i : Nat}
theorem En.own_at {e : En} {i : Nat} (h : (e.own i).isSome = true) : ∃ k xs, e.own i = some (k, xs) := by
  obtain ⟨⟨k, xs⟩, h⟩ := Option.isSome_iff_exists.mp h
  exact ⟨k, xs, h⟩
theorem bs_setN (hp : ∀ (te ti : TE), PE X a te → PE X b ti → PS X st (tAsg te (gSub (tVar i) ti (rSetA C.K C.P C.w)))) (ha : BE X C W a Fa) (hb : BE X C W b Fb) : BS X C W st (fSetN i Fb Fa) :=
  (hp _ _ ha hb).imp fun N σ H ⟨e, Hs, fe, P, ok, q⟩ => by
    refine firstE ok (q.bind σ) fun d e1 v Hs1 H1 fe1 fv1 a1 ok1 r1 q1 => ?_
    by_cases ho : (e1.own i).isSome = true
    · rw [if_pos ho] at q1
      obtain ⟨k0, xs0, ho'⟩ := En.own_at ho
      obtain ⟨v0, _, _, hv, _⟩ := ok1.slot (En.own_some ho')
      refine ⟨v0, hv, ?_⟩
      refine bindE ok1 (.rp r1) ((q1.shift a1).bind σ) fun y e2 w Hs2 H2 fe2 fv2 a2 ok2 r1 r2 q2 => ?_
      have q3 := q2.shift (a2.weak fun b hb => .inl hb)
      obtain ⟨Hs3, a3, ok3, r2', r1'⟩ := (ok2.fps (fun _ => rfl) (fx' := fun b => fv2 b + fv1 b) fun b => Nat.add_comm _ _).frzX r2 (.rp r1)
      have q4 := q3.shift a3
      cases h : ((e2.own i).bind fun (k, xs) => (setD k xs (frz y) d).map fun d' => e2.put i d') with
      | none => rw [h] at q4; exact q4.elim
      | some e5 =>
        rw [h] at q4
        obtain ⟨⟨k, xs⟩, h1, h2⟩ := Option.bind_eq_some_iff.mp h
        obtain ⟨d', h3, rfl⟩ := Option.map_eq_some_iff.mp h2
        exact ok3.store h1 hv r2' r1' h3 fun H' fe' a5 ok5 => q4 σ Hs3 H' fe' a5 ok5
    · rw [if_neg ho] at q1; exact q1.elim
theorem be_appN {e : Expr} (hp : ∀ t, PA X [a] t → PE X e (tBM X.K "list" rAppend (tVar i) t)) (ha : PA X [a] (tCons (canE C W Fa) tNil)) : BE X C W e (eAppN i Fa) :=
  (hp _ ha).imp fun σ H Q ⟨e, Hs, fe, P, ok, q⟩ => by
    unfold eAppN at q
    cases ho : e.ownL i with
    | none => rw [ho] at q; exact q.elim
    | some xs0 =>
      rw [ho] at q
      obtain ⟨v0, f1, f2, hv, r0, e0, okr, putr⟩ := ok.slot (En.ownL_some ho)
      refine ⟨v0, hv, ?_⟩
      obtain ⟨p, vs, g, rfl, hH, _⟩ := r0.lst ok.sm
      refine ⟨.inl ⟨rfl, vs, SqL.of hH⟩, ?_⟩
      refine firstE ok (EndE.bind q) fun d e1 v Hs1 H1 fe1 fv1 a1 ok1 r1 q1 => ?_
      cases h1 : e1.ownL i with
      | none => rw [h1] at q1; exact q1.elim
      | some xs =>
        rw [h1] at q1
        dsimp only at q1
        by_cases hlim : xs.length < lim
        · rw [if_pos hlim] at q1
          obtain ⟨v1, g1, g2, e1', rr, e2', ok2, put⟩ := ok1.slot (En.ownL_some h1)
          rw [hv] at e1'; cases e1'
          cases rr with
          | @own _ _ vs1 _ g _ at_ hw nHs rs eg =>
            refine ⟨p, vs1, v, rfl, rfl, at_, by rw [rs.len]; exact lim_lt (Nat.le_of_lt hlim), ?_⟩
            have one := ok2.wf.one
            have g_a : g p = 0 := by have := one p; have := eg p; rw [if_pos rfl] at this; omega
            have fd_a : fv1 p = 0 := by have := one p; have := eg p; rw [if_pos rfl] at this; omega
            obtain ⟨ok3, af⟩ := ok2.chg (o := .lst (vs1 ++ [v])) (a := p) (by have := eg p; rw [if_pos rfl] at this; omega) (at_.nofrz hw)
            have up : ∀ b, b ≠ p → (upd H1 p (.lst (vs1 ++ [v]))) b = H1 b := fun b hb => upd_ne hb
            have rs2 := rs.mono (Hs' := Hs1) (H' := upd H1 p (.lst (vs1 ++ [v]))) (Same.refl _) fun b hb => ⟨up b fun z => hb (by rw [z]; exact g_a), (rs.live b hb).2⟩
            have rd2 := r1.mono (Hs' := Hs1) (H' := upd H1 p (.lst (vs1 ++ [v]))) (Same.refl _) fun b hb => ⟨up b fun z => hb (by rw [z]; exact fd_a), (r1.live b hb).2⟩
            have ok4 : Ok C Hs1 (upd H1 p (.lst (vs1 ++ [v]))) σ { e1 with sl := e1.sl.set i none } g2 (fun b => ((fun b => g b + fv1 b) b + if b = p then 1 else 0) + f0 b) P := ok3.less fun b => by have := eg b; show g b + fv1 b + (if b = p then 1 else 0) + 0 ≤ g1 b + fv1 b; omega
            refine q1 .non Hs1 _ _ f0 (a1.trans af) (put (e' := e1) (ok4.fps (fun _ => rfl) (fx' := fun b => (fun b => (fun b => g b + fv1 b) b + if b = p then 1 else 0) b + f0 b) fun _ => rfl) (.own (k := .lst) upd_same rfl nHs (rs2.app (.cons rd2 (.nil (f := f0) fun _ => rfl) (h := fv1) fun b => rfl) fun b => rfl) fun b => rfl)) r_non
        · rw [if_neg hlim] at q1; exact q1.elim
/-- x op= a -/
theorem bs_aug {op : Operator} {x : Str} {pos' : Pos} {r : R2} {g : D → D → Option D} (hN : X.N.Nodup) (hi : X.N[i]? = some x) (hl : Loc X.env.scope x) (hp : npin C i) (ho : OpR X (inplaceOp op) r) (hs : OpS C.toGc r g) (ha : BE X C W a Fa)
    (hf : X.fn x = true ∨ X.env.scope.names.lookup x = some .local) : BS X C W (.AugAssign (.Name x pos') op a pos) (fAug i g Fa) :=
  (ps_aug hN hi hl ha (ti := r) (fun pins s σ H x y v u Q I rx ry h => ho pins s σ H x y v u Q I rx ry h) hf).imp fun N σ H ⟨e, Hs, fe, P, ok, q⟩ => by
    unfold fAug at q
    cases h1 : e.sl[i]? with
    | none => rw [h1] at q; exact q.elim
    | some o =>
      cases o with
      | none => rw [h1] at q; exact q.elim
      | some d =>
        rw [h1] at q
        dsimp only at q
        by_cases hd : d.sc = true
        · rw [if_pos hd] at q
          obtain ⟨v0, f1, f2, hv, r0, _⟩ := ok.slot h1
          refine ⟨v0, hv, ?_⟩
          refine firstE ok (EndS.bind q σ) fun y e1 v Hs1 H1 fe1 fv1 a1 ok1 r1 q1 => ?_
          obtain ⟨Hs3, a3, ok3, r3, _⟩ := (ok1.fps (fun _ => rfl) (fx' := fun b => fv1 b + f0 b) fun _ => rfl).freeze r1
          have q3 := q1.shift (a1.trans a3)
          cases h : ((g d (frz y)).map fun z => e1.put i z) with
          | none => rw [h] at q3; exact q3.elim
          | some e5 =>
            rw [h] at q3
            obtain ⟨z, hz, rfl⟩ := Option.map_eq_some_iff.mp h
            have r0' : Rp C.toGc Hs3 H1 v0 d f0 := (r0.f0 hd).mono (a1.trans a3).sh fun b hb => absurd rfl hb
            refine hs ok3.sm r0' r3 hz fun w Hs5 H5 fw n rw' => ?_
            have ok5 := (ok3.new n fun _ h => absurd rfl h).fps (fe' := fe1) (fx' := fun b => fw b + f0 b) (fun _ => rfl) fun b => by show fw b + 0 = 0 + fw b; omega
            have hil : i < e1.sl.length := by
              have h3 := ok.sl.len
              have h4 := ok1.sl.len
              have := (List.getElem?_eq_some_iff.mp h1).1
              omega
            obtain ⟨fe', ok6⟩ := ok5.put rw' hil hp
            exact q3 _ Hs5 H5 fe' (n.aft ok3) ok6
        · rw [if_neg hd] at q; exact q.elim
/-- x[y] op= a -/
theorem bs_augN {op : Operator} {tpos : Pos} {o : Expr} {r : R2} {g : D → D → Option D} (hk : X.K = C.K) (hn : PE X o (tVar i)) (hb : BE X C W b Fb) (ho : OpR X (inplaceOp op) r) (hs : OpS C.toGc r g) (ha : BE X C W a Fa)
    (hst : ∀ ov iv new, augStore b ov iv new = (do holding [new, ov, iv] (setItem ov iv new); release [new, ov, iv] []; pure .next)) : BS X C W (.AugAssign (.Subscript o b tpos) op a pos) (fAugN i g Fb Fa) :=
  (ps_augS hn hb pget_list ha (tip := r) (fun pins s σ H x y v u Q I rx ry h => ho pins s σ H x y v u Q I rx ry h) set_list hst).imp fun N σ H ⟨e, Hs, fe, P, ok, q⟩ => by
    unfold fAugN at q
    by_cases ho : (e.own i).isSome = true
    · rw [if_pos ho] at q
      obtain ⟨k0, xs0, ho'⟩ := En.own_at ho
      obtain ⟨v0, _, _, hv, _⟩ := ok.slot (En.own_some ho')
      refine ⟨v0, hv, ?_⟩
      refine firstE ok (EndS.bind q σ) fun y e1 w Hs1 H1 fe1 fv1 a1 ok1 r1 q1 => ?_
      obtain ⟨Hs2, a2, ok2, r2, _⟩ := (ok1.fps (fun _ => rfl) (fx' := fun b => fv1 b + f0 b) fun _ => rfl).freeze r1
      have q2 := q1.shift (a1.trans a2)
      split at q2
      · rename_i xs h1
        split at q2
        · rename_i j hj
          split at q2
          · rename_i d hd
            by_cases hsc : d.sc = true
            · rw [if_pos hsc] at q2
              obtain ⟨v1, g1, g2, e1', rr, _⟩ := ok2.slot (En.own_some h1)
              rw [hv] at e1'; cases e1'
              obtain ⟨p, vs, gg, rfl, hH, rs, le⟩ := rr.lst ok2.sm
              obtain ⟨u, _, _, hu, ru, _⟩ := rs.get hd
              have hji : ∃ i', frz y = .int i' ∧ ixN xs.length i' = some j := by
                unfold cpos at hj
                dsimp only at hj
                split at hj
                · rename_i i' hy; exact ⟨i', hy, hj⟩
                · cases hj
              obtain ⟨i', hy, hix⟩ := hji
              rw [hy] at r2
              rw [r2.toI]
              refine ⟨p, vs, i', u, rfl, rfl, SqL.of hH, by unfold atI; rw [rs.len, hix]; exact hu, ?_⟩
              refine firstE ok2 (EndS.bind q2 σ) fun w2 e4 v4 Hs4 H4 fe4 fv4 a4 ok4 r4 q4 => ?_
              obtain ⟨Hs5, a5, ok5, r5, _⟩ := (ok4.fps (fun _ => rfl) (fx' := fun b => fv4 b + f0 b) fun _ => rfl).freeze r4
              have q5 := q4.shift (a4.trans a5)
              cases h : ((g d (frz w2)).bind fun z => (e4.ownL i).bind fun xs => (setD .lst xs (frz y) z).map fun d' => e4.put i d') with
              | none => rw [h] at q5; exact q5.elim
              | some e6 =>
                rw [h] at q5
                obtain ⟨z, hz, h2⟩ := Option.bind_eq_some_iff.mp h
                obtain ⟨xs4, h3, h4⟩ := Option.bind_eq_some_iff.mp h2
                obtain ⟨d', h5, rfl⟩ := Option.map_eq_some_iff.mp h4
                have ru' : Rp C.toGc Hs5 H4 u d f0 := (ru.f0 hsc).mono (a4.trans a5).sh fun b hb => absurd rfl hb
                refine hs ok5.sm ru' r5 hz fun w Hs7 H7 fw n rw' => ?_
                have ok7 := (ok5.new n fun _ h => absurd rfl h).fps (fe' := fe4) (fx' := fw) (fun _ => rfl) fun b => by show fw b = 0 + fw b; omega
                have rk : Rp C.toGc Hs7 H7 (.int i') (frz y) f0 := by rw [hy]; exact r_int _
                have ho4 : e4.own i = some (.lst, xs4) := by unfold En.own; rw [En.ownL_some h3]
                rcases ok7.store' ho4 hv rk rw' h5 (Q := N.nx σ) fun H' fe' a8 ok8 => q5 σ Hs7 H' fe' ((n.aft ok5).trans a8) ok8 with h | h
                · exact h.2
                · exact absurd rfl h.1
            · rw [if_neg hsc] at q2; exact q2.elim
          · exact q2.elim
        · exact q2.elim
      · exact q2.elim
    · rw [if_neg ho] at q; exact q.elim
end
end Bx

set_option Elab.async false
set_option linter.all false
set_option maxRecDepth 100000
set_option maxHeartbeats 1000000
/-! Defs and their calls. -/
namespace Bx
open PySem L2

inductive CR where
  | bad | ok (d : D) (outs : List (Option D)) | exc (x : Exc) (outs : List (Option D))
section
variable (G : Gc)
def EndC (r : CR) (vs : List V) (Hs H : Hp) (P : Addr → Prop) (Q : VK) (E : XK) : Prop := match r with
  | .bad => False
  | .ok d outs => ∀ v Hs' H' fv fo, Aft Hs H Hs' H' P → Wf Hs' H' (fun b => fo b + fv b) P → Rp G Hs' H' v d fv → Sls G Hs' H' (vs.map some) outs fo → Q v H'
  | .exc x outs => ∀ dd Hs' H' fo, Aft Hs H Hs' H' P → Wf Hs' H' fo P → Sls G Hs' H' (vs.map some) outs fo → ExD G Hs' H' dd x → E (.ref (G.ca x.c)) (some dd) H'
def spD (n : Nat) (F : List D → CR) : Sp := fun vs H Q E => vs.length = n ∧ ∃ ds Hs fa P, Wf Hs H fa P ∧ Rps G Hs H vs ds fa ∧ EndC G (F ds) vs Hs H P Q E
end
def outs (io : List Nat) : Nat → Nat → List (Option D) → List (Option D)
  | _, 0, _ => []
  | j, n + 1, [] => none :: outs io (j + 1) n []
  | j, n + 1, o :: E => (if io.contains j then o else none) :: outs io (j + 1) n E
def fDef (N : Nat) (io : List Nat) (body : FS) : List D → CR := fun ds => match body ⟨ds.map some ++ List.replicate (N - ds.length) none, none⟩ with
  | .nx e => .ok .non (outs io 0 ds.length e.sl)
  | .rt d e => .ok d (outs io 0 ds.length e.sl)
  | .exc x e => .exc x (outs io 0 ds.length e.sl)
  | _ => .bad
def pinsOf (io : List Nat) (vs : List V) : List (Nat × V) := io.filterMap fun i => (vs[i]?).map fun v => (i, v)
theorem npin_of {io : List Nat} {vs : List V} {i : Nat} {G : Gc} {xa : Option (Addr × Value × Option Addr)} (h : io.contains i = false) : npin ⟨G, pinsOf io vs, xa⟩ i := fun p hp e => by
  obtain ⟨j, hj, h2⟩ := List.mem_filterMap.mp hp
  obtain ⟨v, _, h3⟩ := Option.map_eq_some_iff.mp h2
  have : j = i := by rw [← e, ← h3]
  subst this
  rw [List.contains_iff_mem.mpr hj] at h
  cases h
theorem npins_of {io own : List Nat} {vs : List V} {G : Gc} {xa : Option (Addr × Value × Option Addr)} (h : io.all (fun j => !own.contains j) = true) : ∀ p ∈ (⟨G, pinsOf io vs, xa⟩ : Cc).pins, p.1 ∉ own := fun p hp z => by
  obtain ⟨j, hj, h2⟩ := List.mem_filterMap.mp hp
  obtain ⟨v, _, h3⟩ := Option.map_eq_some_iff.mp h2
  have h4 := List.all_eq_true.mp h j hj
  rw [← h3] at z
  simp only [Bool.not_eq_true'] at h4
  rw [List.contains_iff_mem.mpr z] at h4
  cases h4
section
variable {G : Gc} {Hs H : Hp}
theorem Rps.slots : ∀ {vs : List V} {ds : List D} {f : Fp} (k : Nat), Rps G Hs H vs ds f → Sls G Hs H (vs.map some ++ List.replicate k none) (ds.map some ++ List.replicate k none) f
  | _, _, _, 0, .nil z => .nil z
  | _, _, f, k + 1, .nil z => .no (Rps.slots (vs := []) (ds := []) k (.nil z))
  | _, _, _, k, .cons r rs e => .yes r (Rps.slots k rs) e
theorem Sls.outs (io : List Nat) : ∀ {vs : List V} {σ : L2.St} {E : List (Option D)} {f : Fp} {j : Nat}, Sls G Hs H σ E f → (∀ (i : Nat) (v : V), vs[i]? = some v → io.contains (j + i) = true → σ[i]? = some (some v)) → ∃ fo : Fp, (∀ b, fo b ≤ f b) ∧ Sls G Hs H (vs.map some) (outs io j vs.length E) fo
  | [], _, _, f, j, _, _ => ⟨f0, fun b => Nat.zero_le _, .nil fun _ => rfl⟩
  | v :: vs, _, _, f, j, .nil z, k => by
    obtain ⟨fo, h1, h2⟩ := Sls.outs io (vs := vs) (σ := []) (E := []) (f := f) (j := j + 1) (.nil z) fun i w hw hc => by
      have := k (i + 1) w (by simpa using hw) (by rw [show j + (i + 1) = j + 1 + i by omega]; exact hc)
      simp at this
    exact ⟨fo, h1, .no h2⟩
  | v :: vs, _, _, f, j, .no (o := o) (σ := σ) (e := E) r, k => by
    obtain ⟨fo, h1, h2⟩ := Sls.outs io (vs := vs) (j := j + 1) r fun i w hw hc => by
      have := k (i + 1) w (by simpa using hw) (by rw [show j + (i + 1) = j + 1 + i by omega]; exact hc)
      simpa using this
    refine ⟨fo, h1, ?_⟩
    rw [List.map_cons, List.length_cons]
    unfold Bx.outs
    have : (if io.contains j = true then (none : Option D) else none) = none := by split <;> rfl
    rw [this]
    exact .no h2
  | v :: vs, _, _, f, j, .yes (v := w0) (d := d) (f := fd) (σ := σ) (e := E) (g := g) r rs q, k => by
    obtain ⟨fo, h1, h2⟩ := Sls.outs io (vs := vs) (j := j + 1) rs fun i w hw hc => by
      have := k (i + 1) w (by simpa using hw) (by rw [show j + (i + 1) = j + 1 + i by omega]; exact hc)
      simpa using this
    rw [List.map_cons, List.length_cons]
    unfold Bx.outs
    by_cases hc : io.contains j = true
    · rw [if_pos hc]
      have := k 0 v rfl (by simpa using hc)
      simp at this
      subst this
      exact ⟨fun b => fd b + fo b, fun b => by have := q b; have := h1 b; show fd b + fo b ≤ _; omega, .yes r h2 fun b => rfl⟩
    · rw [if_neg hc]
      exact ⟨fo, fun b => by have := q b; have := h1 b; omega, .no h2⟩
theorem Wf.less {f f' : Fp} {P : Addr → Prop} (w : Wf Hs H f P) (h : ∀ b, f' b ≤ f b) : Wf Hs H f' P :=
  ⟨w.sm, fun b => by have := w.one b; have := h b; omega, fun b hb => w.own b (by have := h b; omega), fun b hb => by have := w.apart b hb; have := h b; omega, w.live⟩
end
/-- the wish of a def about its exceptions -/
abbrev WD (E : XK) : WX := fun cls d _ H => E cls d H
section
variable {P : Program} {w : World} {K : PySem.W.Frag} {mg : Str → Option Value} {base : Heap}
theorem def_ok {ca : Str → Addr} {x qual : Str} {st : Stmt} {f : Addr} {fd : FuncData} {N ps : List Str} {k : Nat} {io : List Nat} {body : FS} (F : Fun K x qual st f fd) (S : FnScope N ps (defScope st)) (hn : ps.length ≤ N.length)
    (hb : ∀ (cdv : Value) (A : Around) (outer : List Env) (s : Shared) (H : Hp) (vs : List V) (E : XK), Room k (A.deeper (PyProof.Rows.envOfC qual (defScope st) s.heap.objs.size f cdv)) →
      BSs (cxOf (L2.CX P w) P w K mg base N qual (defScope st) f cdv A outer s H E) ⟨⟨K, ca, P, w⟩, pinsOf io vs, none⟩ (WD E) (defBody st) body) : FnOk P w K mg base (L2.CX P w) (k + 1) f fd ps (spD ⟨K, ca, P, w⟩ ps.length (fDef N.length io body)) := by
  refine F.okX S (fun vs H Q E h => h.1) (fun cdv A outer s H vs Q E hr h => ⟨_, hb cdv A outer s H vs E hr, ?_⟩)
  obtain ⟨hl, ds, Hs, fa, Pr, wf, r, q⟩ := h
  have hds : ds.length = vs.length := r.len.symm
  have hs0 : Sls ⟨K, ca, P, w⟩ Hs H (L2.start N vs) (ds.map some ++ List.replicate (N.length - ds.length) none) fa := by
    unfold L2.start
    rw [hds]
    exact r.slots _
  refine ⟨⟨ds.map some ++ List.replicate (N.length - ds.length) none, none⟩, Hs, fa, Pr, ⟨wf, hs0, fun p hp => ?_, trivial⟩, ?_⟩
  · obtain ⟨j, hj, h2⟩ := List.mem_filterMap.mp hp
    obtain ⟨v, hv, rfl⟩ := Option.map_eq_some_iff.mp h2
    unfold L2.start
    have := (List.getElem?_eq_some_iff.mp hv).1
    rw [List.getElem?_append_left (by rw [List.length_map]; exact this), List.getElem?_map, hv]; rfl
  · unfold fDef at q
    -- the parameters that are handed out
    have out : ∀ {σ' : L2.St} {e' : En} {Hs' H' : Hp} {fe' fx : Fp}, Ok ⟨⟨K, ca, P, w⟩, pinsOf io vs, none⟩ Hs' H' σ' e' fe' fx Pr → ∃ fo : Fp, (∀ b, fo b ≤ fe' b) ∧ Sls ⟨K, ca, P, w⟩ Hs' H' (vs.map some) (outs io 0 ds.length e'.sl) fo := by
      intro σ' e' Hs' H' fe' fx ok
      rw [hds]
      refine Sls.outs io ok.sl fun i v hv hc => ?_
      have hm : (i, v) ∈ pinsOf io vs := List.mem_filterMap.mpr ⟨i, List.contains_iff_mem.mp (by simpa using hc), by rw [hv]; rfl⟩
      exact ok.pn _ hm
    generalize body ⟨ds.map some ++ List.replicate (N.length - ds.length) none, none⟩ = rr at q ⊢
    cases rr with
    | bad => exact q
    | bk e => exact False.elim q
    | ct e => exact False.elim q
    | nx e =>
      exact fun σ' Hs' H' fe' af ok => by
        obtain ⟨fo, le, so⟩ := out ok
        exact q .non Hs' H' f0 fo af (ok.wf.less fun b => by have := le b; show fo b + 0 ≤ fe' b + 0; omega) r_non so
    | rt d e =>
      exact fun v σ' Hs' H' fe' fv af ok rv => by
        obtain ⟨fo, le, so⟩ := out ok
        exact q v Hs' H' fv fo af (ok.wf.less fun b => by have := le b; omega) rv so
    | exc x e =>
      exact fun dd σ' Hs' H' fe' af ok ex => by
        obtain ⟨fo, le, so⟩ := out ok
        exact q dd Hs' H' fo af (ok.wf.less fun b => by have := le b; show fo b ≤ fe' b + 0; omega) so ex
end

/-! ### calls -/
def takeA : En → List AV → Option (List D × En)
  | e, [] => some ([], e)
  | e, .d x :: as => (takeA e as).map fun (ds, e2) => (x :: ds, e2)
  | e, .io i :: as => match e.sl[i]? with
    | some (some d) => (takeA (e.del i) as).map fun (ds, e2) => (d :: ds, e2)
    | _ => none
def putA : List AV → List (Option D) → En → Option En
  | [], _, e => some e
  | .d _ :: as, _ :: os, e => putA as os e
  | .io i :: as, some d :: os, e => match e.sl[i]? with
    | some none => putA as os (e.put i d)
    | _ => none
  | _, _, _ => none
def eCall (n : Nat) (F : List D → CR) (as : FA) : FE := fun e => (as e).bind fun as e1 => match takeA e1 as with
  | some (ds, e2) => if ds.length = n then (match F ds with
    | .ok d os => (match putA as os e2 with
      | some e3 => .ok d e3
      | none => .bad)
    | .exc x os => (match putA as os e2 with
      | some e3 => .exc x e3
      | none => .bad)
    | .bad => .bad) else .bad
  | none => .bad
section
variable {G : Gc} {Hs H : Hp} {σ : L2.St}
theorem Ra.take : ∀ {vs : List V} {as : List AV} {f fe : Fp} {e e2 : En} {ds : List D}, Ra G Hs H σ vs as f → Sls G Hs H σ e.sl fe → takeA e as = some (ds, e2) →
    ∃ (fa fe2 : Fp), Rps G Hs H vs ds fa ∧ Sls G Hs H σ e2.sl fe2 ∧ (∀ b, fe b + f b = fa b + fe2 b) ∧ e2.ex = e.ex
  | _, _, f, fe, e, _, _, .nil z, s, h => by cases h; exact ⟨f0, fe, .nil fun _ => rfl, s, fun b => by have := z b; show _ = 0 + fe b; omega, rfl⟩
  | _, _, _, fe, e, e2, ds, .d (x := x) (as := as) (f := f1) (g := g1) r rs q, s, h => by
    unfold takeA at h
    obtain ⟨⟨ds', e3⟩, h1, h2⟩ := Option.map_eq_some_iff.mp h
    cases h2
    obtain ⟨fa, fe2, k1, k2, k3, k4⟩ := Ra.take rs s h1
    exact ⟨fun b => f1 b + fa b, fe2, .cons r k1 fun b => rfl, k2, fun b => by have := k3 b; have := q b; show _ = f1 b + fa b + fe2 b; omega, k4⟩
  | _, _, f, fe, e, e2, ds, .io (v := v) (i := i) (as := as) hs rs, s, h => by
    unfold takeA at h
    split at h
    · rename_i d hd
      obtain ⟨⟨ds', e3⟩, h1, h2⟩ := Option.map_eq_some_iff.mp h
      cases h2
      obtain ⟨w, f1, f2, hw, rw', ef, s2⟩ := s.get hd
      rw [hs] at hw; cases hw
      obtain ⟨fa, fe2, k1, k2, k3, k4⟩ := Ra.take (e := e.del i) rs s2 h1
      exact ⟨fun b => f1 b + fa b, fe2, .cons rw' k1 fun b => rfl, k2, fun b => by have := k3 b; have := ef b; show _ = f1 b + fa b + fe2 b; omega, k4⟩
    · cases h
theorem Ra.put : ∀ {vs : List V} {as : List AV} {fo fe : Fp} {e e3 : En} {os : List (Option D)} {Hs0 H0 : Hp} {f : Fp}, Ra G Hs0 H0 σ vs as f → Sls G Hs H (vs.map some) os fo → Sls G Hs H σ e.sl fe → putA as os e = some e3 →
    ∃ fe3 : Fp, Sls G Hs H σ e3.sl fe3 ∧ (∀ b, fe3 b ≤ fe b + fo b) ∧ e3.ex = e.ex
  | _, _, fo, fe, e, _, os, _, _, _, .nil z, so, s, h => by
    unfold putA at h; cases h; exact ⟨fe, s, fun b => by omega, rfl⟩
  | _, _, fo, fe, e, e3, os, _, _, _, .d (x := x) (as := as) r rs q, so, s, h => by
    cases so with
    | no so => exact Ra.put rs so s h
    | yes r2 so q2 =>
      obtain ⟨fe3, k1, k2, k3⟩ := Ra.put rs so s h
      exact ⟨fe3, k1, fun b => by have := k2 b; have := q2 b; omega, k3⟩
  | _, _, fo, fe, e, e3, os, _, _, _, .io (v := v) (i := i) (as := as) hs rs, so, s, h => by
    cases so with
    | no so => unfold putA at h; cases h
    | @yes _ d f2 _ _ g _ r2 so q2 =>
      unfold putA at h
      split at h
      · rename_i hn
        have s2 := s.put hn r2 (h := fun b => f2 b + fe b) fun b => rfl
        have e4 : σ.set i (some v) = σ := by
          obtain ⟨hl, hv⟩ := List.getElem?_eq_some_iff.mp hs
          rw [← hv]; exact List.set_getElem_self hl
        rw [e4] at s2
        obtain ⟨fe3, k1, k2, k3⟩ := Ra.put (e := e.put i d) rs so s2 h
        exact ⟨fe3, k1, fun b => by have h1 := k2 b; have h2 := q2 b; have h3 : (fun b => f2 b + fe b) b = f2 b + fe b := rfl; omega, k3⟩
      · cases h
end
section
variable {X : Cx} {C : Cc} {W : WX} {pos : Pos} {a : Expr} {es : List Expr} {As : FA}
/-- the call itself: the arguments at hand, the callee's promise -/
theorem call_read {F : List D → CR} {n : Nat} {σ : L2.St} {H : Hp} {Q : VK} (h : canE C W (eCall n F As) σ H Q) : canA C W As σ H fun vs H1 => spD C.toGc n F vs H1 Q (WE W σ) := by
  obtain ⟨e, Hs, fe, P, ok, q⟩ := h
  refine firstA ok q.bind fun as e1 vs Hs1 H1 fe1 fv1 a1 ok1 r1 q1 => ?_
  have q2 := q1.shift a1
  cases ht : takeA e1 as with
  | none => rw [ht] at q2; exact q2.elim
  | some de =>
    obtain ⟨ds, e2⟩ := de
    rw [ht] at q2
    dsimp only at q2
    by_cases hn : ds.length = n
    rotate_left
    · rw [if_neg hn] at q2; exact q2.elim
    rw [if_pos hn] at q2
    obtain ⟨fa, fe2, rd, s2, ef, ex2⟩ := r1.take ok1.sl ht
    have one := ok1.wf.one
    refine ⟨rd.len.trans hn, ds, Hs1, fa, fun b => P b ∨ fe2 b ≠ 0, ⟨ok1.wf.sm, fun b => by have := one b; have := ef b; omega, fun b hb => ok1.wf.own b (by have := ef b; omega), fun b hb => by
      rcases hb with hb | hb
      · have := ok1.wf.apart b hb; have := ef b; omega
      · have := one b; have := ef b; omega, fun b hb => by
      rcases hb with hb | hb
      · exact ok1.wf.live b hb
      · exact (s2.live b hb).1⟩, rd, ?_⟩
    -- the state behind the call
    have back : ∀ {Hs' H' : Hp} {fo fv : Fp} {os : List (Option D)} {e3 : En}, Aft Hs1 H1 Hs' H' (fun b => P b ∨ fe2 b ≠ 0) → Wf Hs' H' (fun b => fo b + fv b) (fun b => P b ∨ fe2 b ≠ 0) → Sls C.toGc Hs' H' (vs.map some) os fo → putA as os e2 = some e3 →
        ∃ fe3, Ok C Hs' H' σ e3 fe3 fv P := by
      intro Hs' H' fo fv os e3 af wf so hp
      have s3 := s2.mono (Hs' := Hs') (H' := H') af.sh fun b hb => af.keep b (.inr hb) (ok1.wf.own b (by have := ef b; omega))
      obtain ⟨fe3, s4, le, ex3⟩ := r1.put so s3 hp
      refine ⟨fe3, ⟨wf.sm, fun b => ?_, fun b hb => ?_, fun b hb => ?_, fun b hb => wf.live b (.inl hb)⟩, s4, ok1.pn, by rw [ex3, ex2]; exact ok1.ex.mono af.sh⟩
      · have h1 := le b; have h2 := wf.one b; have h3 := one b; have h4 := ef b
        by_cases z : fe2 b = 0
        · omega
        · have := wf.apart b (.inr z); omega
      · have h1 := le b
        by_cases z : fe2 b = 0
        · exact wf.own b (by omega)
        · exact (af.keep b (.inr z) (ok1.wf.own b (by have := ef b; omega))).2
      · have h1 := le b; have h2 := wf.apart b (.inl hb); have h3 := ok1.wf.apart b hb; have h4 := ef b
        omega
    cases hF : F ds with
    | bad => rw [hF] at q2; exact q2
    | ok d os =>
      rw [hF] at q2
      dsimp only at q2
      intro v Hs' H' fv fo af wf rv so
      cases hp : putA as os e2 with
      | none => rw [hp] at q2; exact q2.elim
      | some e3 =>
        rw [hp] at q2
        obtain ⟨fe3, ok3⟩ := back af wf so hp
        exact q2 v Hs' H' fe3 fv (af.weak fun b hb => .inl hb) ok3 rv
    | exc x os =>
      rw [hF] at q2
      dsimp only at q2
      intro dd Hs' H' fo af wf so ex
      cases hp : putA as os e2 with
      | none => rw [hp] at q2; exact q2.elim
      | some e3 =>
        rw [hp] at q2
        obtain ⟨fe3, ok3⟩ := back (fv := f0) af wf so hp
        exact q2 dd Hs' H' fe3 (af.weak fun b hb => .inl hb) ok3 ex
end
end Bx

set_option Elab.async false
set_option linter.all false
set_option maxRecDepth 100000
set_option maxHeartbeats 1000000
/-! Calls in place, the law's end, exceptions. -/
namespace Bx
open PySem L2

section
variable {X : Cx} {C : Cc} {W : WX} {pos : Pos} {a : Expr} {es : List Expr} {As : FA}
theorem be_call {k n : Nat} {f : Addr} {fd : FuncData} {ps : List Str} {Fn : List D → CR} {x : Str} {p : Pos} (F : FnOk X.prog X.w X.K X.mg X.base (L2.CX X.prog X.w) k f fd ps (spD C.toGc n Fn)) (hr : Room k X.A) (hg : Gl X x) (hm : X.mg x = some (.ref f)) (hk : PySem.W.keepIn X.K (.ref f) = true)
    (hb : Binds X.K fd ps []) (tk : Takes X W) (ha : BA X C W (a :: es) As) (hdb : (x == ("__debug__" : Str)) = false) (he : starEach (a :: es) X.env = (false, eval a X.env) :: starEach es X.env) (hpl : (backTo pos (starEach es X.env)).any (·.1) = false) :
    BE X C W (.Call (.Name x p) (a :: es) [] pos) (eCall n Fn As) :=
  (pe_callS F hr hg hm hk hb (E := WE W) (fun σ => passAt tk σ) ha hdb he hpl).imp fun σ H Q h => call_read h
theorem be_call0 {k n : Nat} {f : Addr} {fd : FuncData} {ps : List Str} {Fn : List D → CR} {x : Str} {p : Pos} (F : FnOk X.prog X.w X.K X.mg X.base (L2.CX X.prog X.w) k f fd ps (spD C.toGc n Fn)) (hr : Room k X.A) (hg : Gl X x) (hm : X.mg x = some (.ref f)) (hk : PySem.W.keepIn X.K (.ref f) = true)
    (hb : Binds X.K fd ps []) (tk : Takes X W) (hdb : (x == ("__debug__" : Str)) = false) : BE X C W (.Call (.Name x p) [] [] pos) (eCall n Fn aNil) := by
  refine ⟨fun pins s σ H Q I h => ?_⟩
  refine wpAny_Call_Name_kw (ld_glob I hg hm ?_ hdb)
  have h2 := call_read h
  obtain ⟨e, Hs, fe, P, ok, q⟩ := h2
  have q2 := q [] Hs H fe f0 (Aft.refl _ _ _) ok (.nil fun _ => rfl)
  exact PySem.W.callWith_K0 I.kIn hk (run_fnS (us := []) F hr hb (passAt tk σ) I .nil q2)
end

/-- the law's own promise -/
theorem law_sp {K : PySem.W.Frag} {ca : Str → Addr} {F : List D → CR} {H : Hp} {p : Addr} {ns : List Int} {os : List (Option D)} {E : XK} (hF : F [.nd .wl false (ns.map D.int)] = .ok (.bl true) os) (hS : SqL K H p (ns.map V.int)) :
    spD ⟨K, ca, P, w⟩ 1 F [.ref p] H (fun v _ => v = .bl true) E := by
  have ri : ∀ ns : List Int, Rps ⟨K, ca, P, w⟩ H H (ns.map V.int) (ns.map D.int) f0 := fun ns => by
    induction ns with
    | nil => exact .nil fun _ => rfl
    | cons n ns ih => exact .cons (r_int n) ih fun _ => rfl
  refine ⟨rfl, [.nd .wl false (ns.map D.int)], H, f0, fun _ => False, ⟨fun a o h => .inl h, fun b => Nat.zero_le _, fun b hb => absurd rfl hb, fun b hb => hb.elim, fun b hb => hb.elim⟩, .cons (.sh hS (ri ns) fun _ => rfl) (.nil (f := f0) fun _ => rfl) fun _ => rfl, ?_⟩
  rw [hF]
  exact fun v Hs' H' fv fo _ _ rv _ => rv.toB

/-! ### raise -/
/-- an own exception's __init__: the attributes fns in this order -/
def spXi (Ca : Addr) (fns : List Str) : Sp := fun vs H Q _ => ∃ (a : Addr) (xs : List V), vs = .ref a :: xs ∧ xs.length = fns.length ∧ H a = some (exo a Ca none) ∧
  ∀ d H', H d = none → d ≠ a → H' a = some (exo a Ca (some d)) → H' d = some (exd d (fns.zip xs).reverse) → (∀ b, b ≠ a → b ≠ d → H' b = H b) → Q .non H'
section
variable {K : PySem.W.Frag} {Ca : Addr} {H : Hp} {Q : VK} {E : XK} {vs : List V} {x y z : Str} {N : List Str}
theorem xi1 (T : OexC K Ca) (nx : PySem.W.findIn K (.ref Ca) x = some none) (h : spXi Ca [x] vs H Q E) (k : Nat) : tOst K x (tVar 0) (tVar 1) { nx := fun _ H' => Q .non H', rt := Q } (vs.map some ++ List.replicate k none) H := by
  obtain ⟨a, xs, rfl, hl, ha, q⟩ := h
  obtain ⟨v, rfl⟩ : ∃ v, xs = [v] := by
    match xs, hl with
    | [v], _ => exact ⟨v, rfl⟩
  refine ⟨v, rfl, .ref a, rfl, a, Ca, rfl, T, nx, .inl ⟨ha, fun d hd hda => q d _ hd hda upd_same ?_ fun b h1 h2 => by rw [upd_ne h1, upd_ne h2]⟩⟩
  rw [upd_ne hda, upd_same]; rfl
theorem xi2 (T : OexC K Ca) (nx : PySem.W.findIn K (.ref Ca) x = some none) (ny : PySem.W.findIn K (.ref Ca) y = some none) (h : spXi Ca [x, y] vs H Q E) (k : Nat) :
    tSeq (tOst K x (tVar 0) (tVar 1)) (tOst K y (tVar 0) (tVar 2)) { nx := fun _ H' => Q .non H', rt := Q } (vs.map some ++ List.replicate k none) H := by
  obtain ⟨a, xs, rfl, hl, ha, q⟩ := h
  obtain ⟨v, w, rfl⟩ : ∃ v w, xs = [v, w] := by
    match xs, hl with
    | [v, w], _ => exact ⟨v, w, rfl⟩
  refine ⟨v, rfl, .ref a, rfl, a, Ca, rfl, T, nx, .inl ⟨ha, fun d hd hda => ?_⟩⟩
  refine ⟨w, rfl, .ref a, rfl, a, Ca, rfl, T, ny, .inr ⟨d, [(x, v)], upd_same, by rw [upd_ne hda, upd_same], by simp, ?_⟩⟩
  refine q d _ hd hda (by rw [upd_ne hda.symm, upd_same]) (by rw [upd_same]; rfl) fun b h1 h2 => by rw [upd_ne h2, upd_ne h1, upd_ne h2]
theorem xi3 (T : OexC K Ca) (nx : PySem.W.findIn K (.ref Ca) x = some none) (ny : PySem.W.findIn K (.ref Ca) y = some none) (nz : PySem.W.findIn K (.ref Ca) z = some none) (h : spXi Ca [x, y, z] vs H Q E) (k : Nat) :
    tSeq (tOst K x (tVar 0) (tVar 1)) (tSeq (tOst K y (tVar 0) (tVar 2)) (tOst K z (tVar 0) (tVar 3))) { nx := fun _ H' => Q .non H', rt := Q } (vs.map some ++ List.replicate k none) H := by
  obtain ⟨a, xs, rfl, hl, ha, q⟩ := h
  obtain ⟨v, w, u, rfl⟩ : ∃ v w u, xs = [v, w, u] := by
    match xs, hl with
    | [v, w, u], _ => exact ⟨v, w, u, rfl⟩
  refine ⟨v, rfl, .ref a, rfl, a, Ca, rfl, T, nx, .inl ⟨ha, fun d hd hda => ?_⟩⟩
  refine ⟨w, rfl, .ref a, rfl, a, Ca, rfl, T, ny, .inr ⟨d, [(x, v)], upd_same, by rw [upd_ne hda, upd_same], by simp, ?_⟩⟩
  refine ⟨u, rfl, .ref a, rfl, a, Ca, rfl, T, nz, .inr ⟨d, [(y, w), (x, v)], by rw [upd_ne hda.symm, upd_same], by rw [upd_same], by simp, ?_⟩⟩
  refine q d _ hd hda (by rw [upd_ne hda.symm, upd_ne hda.symm, upd_same]) (by rw [upd_same]; rfl) fun b h1 h2 => by rw [upd_ne h2, upd_ne h2, upd_ne h1, upd_ne h2]
end
theorem Rps.rev {G : Gc} {Hs H : Hp} : ∀ {vs : List V} {ds : List D} {f : Fp}, Rps G Hs H vs ds f → Rps G Hs H vs.reverse ds.reverse f
  | _, _, _, .nil z => .nil z
  | _, _, f, .cons (f := f1) (g := g) r rs e => by
    rw [List.reverse_cons, List.reverse_cons]
    exact Rps.app rs.rev (.cons r (.nil (f := f0) fun _ => rfl) (h := f1) fun b => rfl) fun b => by rw [e b]; omega
def fRaise (c : Str) (fns : List Str) (as : FA) : FS := fun e => (as e).toS fun as e1 => match dvs as with
  | some ds => if ds.length = fns.length ∧ ds.length ≤ 1000 then .exc ⟨c, fns.reverse, (frzs ds).reverse⟩ e1 else .bad
  | none => .bad
theorem zip_rev {α β : Type} : ∀ {xs : List α} {ys : List β}, xs.length = ys.length → (xs.zip ys).reverse = xs.reverse.zip ys.reverse
  | [], [], _ => rfl
  | [], _ :: _, h => by cases h
  | _ :: _, [], h => by cases h
  | x :: xs, y :: ys, h => by
    have h' : xs.length = ys.length := by simpa using h
    rw [List.zip_cons_cons, List.reverse_cons, List.reverse_cons, List.reverse_cons, List.zip_append (by simp [h']), zip_rev h']; rfl
section
variable {X : Cx} {C : Cc} {W : WX} {pos : Pos} {a : Expr} {es : List Expr} {As : FA}
theorem bs_raise {k : Nat} {fI Ca : Addr} {fd : FuncData} {ps fns : List Str} {x : Str} {p pos2 : Pos} (hc : X.calm = true) (tk : Takes X W) (hca : C.ca x = Ca) (T : OexC X.K Ca) (iC : PySem.W.findIn X.K (.ref Ca) "__init__" = some (some (.ref fI))) (tI : PySem.W.typeIn X.K (.ref fI) = some (.type "function"))
    (F1 : FnOk X.prog X.w X.K X.mg X.base (L2.CX X.prog X.w) k fI fd ps (spXi Ca fns)) (hr : Room (k + 1) X.A) (hb : Binds X.K fd ps []) (hg : Gl X x) (hm : X.mg x = some (.ref Ca)) (ha : BA X C W (a :: es) As)
    (hdb : (x == ("__debug__" : Str)) = false) (he : starEach (a :: es) X.env = (false, eval a X.env) :: starEach es X.env) (hpl : (backTo pos (starEach es X.env)).any (·.1) = false) :
    BS X C W (.Raise (some (.Call (.Name x p) (a :: es) [] pos)) none pos2) (fRaise x fns As) :=
  (ps_raise hc tk (pmk_oex T iC tI F1 hr hb .nil passL hg hm ha hdb he hpl)).imp fun N σ H ⟨e, Hs, fe, P, ok, q⟩ => by
    refine firstA ok (q.bind σ) fun as e1 vs Hs1 H1 fe1 fv1 a1 ok1 r1 q1 => ?_
    cases h1 : dvs as with
    | none => rw [h1] at q1; exact q1.elim
    | some ds =>
      rw [h1] at q1
      dsimp only at q1
      by_cases hl : ds.length = fns.length ∧ ds.length ≤ 1000
      · rw [if_pos hl] at q1
        obtain ⟨Hs3, a3, ok3, r3⟩ := ok1.freezes (r1.vals h1)
        have q3 := q1.shift (a1.trans a3)
        have hvl : vs.length = ds.length := (r1.vals h1).len
        refine ⟨by omega, fun ad had => ⟨ad, vs, by rw [List.append_nil], by omega, upd_same, fun d H2 hd hda h2a h2d hoth => ⟨rfl, d, _, h2a, h2d, ?_, ?_⟩⟩⟩
        · rw [upd_ne hda] at hd; exact hd
        · have hd1 : H1 d = none := by rw [upd_ne hda] at hd; exact hd
          have eH : upd (del H2 ad) d (.xd (fns.zip vs).reverse) = upd H1 d (.xd (fns.zip vs).reverse) := by
            funext b
            by_cases hbd : b = d
            · rw [hbd, upd_same, upd_same]
            · rw [upd_ne hbd, upd_ne hbd]
              by_cases hba : b = ad
              · rw [hba, del_same, had]
              · rw [del_ne hba, hoth b hba hbd, upd_ne hba]
          rw [eH, ← hca]
          have n := New.mkS (o := .xd (fns.zip vs).reverse) ok3.sm hd1
          refine q3 d σ _ _ fe1 (n.aft ok3) ((ok3.new n fun _ h => absurd rfl h).fps (fun _ => rfl) fun _ => rfl) ⟨vs.reverse, ?_, by simp; omega, ?_⟩
          · rw [upd_same, zip_rev (by omega)]
          · exact (r3.rev).mono n.sh fun b hb => absurd rfl hb
      · rw [if_neg hl] at q1; exact q1.elim
end

/-! ### try -/
def En.suite (e : En) (i : Nat) (x : Exc) : En := ⟨e.sl.set i none, some x⟩
def En.calm (e : En) (i : Nat) : En := ⟨e.sl.set i none, none⟩
def So.calm (i : Nat) : So → So
  | .nx e => .nx (e.calm i)
  | .bk e => .bk (e.calm i)
  | .ct e => .ct (e.calm i)
  | .rt d e => .rt d (e.calm i)
  | _ => .bad
/-- try: body / except .. as n: suite -/
def fTryAs (i : Nat) (isA : Str → Option Bool) (body suite : FS) : FS := fun e => match body e with
  | .exc x e1 => (match isA x.c with
    | some true => if i < e1.sl.length then (suite (e1.suite i x)).calm i else .bad
    | some false => .exc x e1
    | none => .bad)
  | r => r
def Cc.su (C : Cc) (i : Nat) (a : Addr) (cls : Value) (d : Option Addr) : Cc := ⟨C.toGc, (i, .ref a) :: C.pins, some (a, cls, d)⟩
/-- n.f in the suite -/
def eXf (c f : Str) : FE := fun e => match e.ex with
  | some x => if x.c = c then .opt ((x.fn.zip x.xs).lookup f) e else .bad
  | none => .bad
section
variable {X : Cx} {C : Cc} {W : WX} {pos : Pos} {a : Expr} {es : List Expr} {As : FA} {Sb Ss : FS}
theorem zip_lookup {G : Gc} {Hs H : Hp} {f : Str} : ∀ {fn : List Str} {vs : List V} {xs : List D} {d : D}, Rps G Hs H vs xs f0 → (fn.zip xs).lookup f = some d → ∃ v, (fn.zip vs).lookup f = some v ∧ Rp G Hs H v d f0
  | [], _, _, _, _, h => by simp at h
  | n :: fn, _, _, d, .nil _, h => by simp at h
  | n :: fn, _, _, d, .cons (v := v) (d := d') (f := f1) (g := g1) r rs e, h => by
    rw [List.zip_cons_cons, List.lookup_cons] at h
    have hf : ∀ b, f0 b = f1 b := fun b => by have := e b; simp only [f0] at *; omega
    have hg : ∀ b, f0 b = g1 b := fun b => by have := e b; simp only [f0] at *; omega
    by_cases hfn : (f == n) = true
    · rw [hfn] at h
      dsimp only at h
      cases h
      exact ⟨v, by rw [List.zip_cons_cons, List.lookup_cons, hfn], r.fp hf⟩
    · have hfn' : (f == n) = false := by simpa using hfn
      rw [hfn'] at h
      dsimp only at h
      obtain ⟨w, h1, h2⟩ := zip_lookup (rs.fp hg) h
      exact ⟨w, by rw [List.zip_cons_cons, List.lookup_cons, hfn']; exact h1, h2⟩
theorem be_xf {i : Nat} {ad Ca : Addr} {oe : Obj} {cls : Value} {d : Option Addr} {pn : List (Addr × Obj)} {c f : Str} (T : XfC X.K Ca) (hno : PySem.W.findIn X.K (.ref Ca) f = some none) (hca : C.ca c = Ca) (hz : Zc cls d oe) (hf : ∃ vs, oe.data = .fields vs)
    (ho : PE (X.suite ad ((ad, oe) :: pn)) a (tVar i)) (hb : attributeBase a f X.env (eval a X.env) = eval a X.env) : BE (X.suite ad ((ad, oe) :: pn)) (C.su i ad cls d) W (.Attribute a f pos) (eXf c f) :=
  (pe_xf T hno hz hf ho hb).imp fun σ H Q ⟨e, Hs, fe, P, ok, q⟩ => by
    unfold eXf at q
    cases hx : e.ex with
    | none => rw [hx] at q; exact q.elim
    | some x =>
      rw [hx] at q
      dsimp only at q
      by_cases hxc : x.c = c
      rotate_left
      · rw [if_neg hxc] at q; exact q.elim
      rw [if_pos hxc] at q
      cases hl : (x.fn.zip x.xs).lookup f with
      | none => rw [hl] at q; exact q.elim
      | some dv =>
        rw [hl] at q
        have hex := ok.ex
        rw [hx] at hex
        obtain ⟨a', dd, e1, vs, h1, h2, h3⟩ := hex
        have e1' : (ad, cls, d) = (a', Value.ref ((C.su i ad cls d).ca x.c), some dd) := Option.some.inj e1
        have e2 : ad = a' := congrArg (·.1) e1'
        have e3 : d = some dd := congrArg (·.2.2) e1'
        have hp := ok.pn (i, .ref ad) List.mem_cons_self
        obtain ⟨v, h4, h5⟩ := zip_lookup h3 hl
        refine ⟨.ref ad, hp, rfl, (congrArg (fun z => z.2.1) e1').trans (by rw [hxc]; exact congrArg Value.ref hca), dd, x.fn.zip vs, v, e3, ?_, h4, ?_⟩
        · rcases ok.sm _ _ h1 with h | ⟨z, _⟩
          · exact h
          · exact z.elim
        · exact q v Hs H fe f0 (Aft.refl _ _ _) ok h5
theorem bs_tryAs {i : Nat} {x n : Str} {c : Value} {body suite : List Stmt} {b0 : Stmt} {np pos' : Pos} {isA : Str → Option Bool} (hs : X.stack = X.env :: X.outer) (hf : X.env.frame = some X.env.locals) (hN : X.N.Nodup) (hi : X.N[i]? = some n) (hln : X.env.kindOf n = some .local) (hc : Names X x c) (tk : Takes X W) (hp : npin C i) (hx : C.xa = none)
    (hk : X.K = C.K) (hA : ∀ c' b, isA c' = some b → PySem.W.exmOne C.K (.ref (C.ca c')) c = some b)
    (hb : ∀ (W' : WX) (pn : List (Addr × Obj)) (xe : Value → Shared → Prop), Takes (X.tr pn xe) W' → PassesOwn (model X.prog X.w) X.A X.env xe → BSs (X.tr pn xe) C W' body Sb)
    (hsu : ∀ (a : Addr) (oe : Obj) (cls : Value) (d : Option Addr) (pn : List (Addr × Obj)), Zc cls d oe → (∃ vs, oe.data = .fields vs) → BSs (X.suite a ((a, oe) :: pn)) (C.su i a cls d) W0 (b0 :: suite) Ss) :
    BS X C W (.Try body [.ExceptHandler (some (.Name x np)) (some n) (b0 :: suite) pos'] [] [] pos) (fTryAs i isA Sb Ss) :=
  (ps_try_as hs hf hN hi hln hc tk (tb := fun W' => canS C W' Sb) (ts := fun a cls d => canS (C.su i a cls d) W0 Ss) hb hsu).imp fun N σ H ⟨e, Hs, fe, P, ok, q⟩ => by
    refine ⟨e, Hs, fe, P, ok, ?_⟩
    unfold fTryAs at q
    generalize Sb e = r at q ⊢
    cases r with
    | bad => exact q
    | nx e1 => exact q
    | bk e1 => exact q
    | ct e1 => exact q
    | rt d e1 => exact q
    | exc x e1 =>
      intro dd σ1 Hs1 H1 fe1 a1 ok1 ex1
      dsimp only at q
      cases hcl : isA x.c with
      | none => rw [hcl] at q; exact q.elim
      | some k =>
        rw [hcl] at q
        refine ⟨k, by rw [hk]; exact hA _ _ hcl, fun hk1 => ?_, fun hk0 => ?_⟩
        · subst hk1
          intro a ha
          dsimp only at q
          by_cases hil : i < e1.sl.length
          rotate_left
          · rw [if_neg hil] at q; exact q.elim
          rw [if_pos hil] at q
          obtain ⟨fe2, ok2⟩ := ok1.del i
          have ok3 : Ok (C.su i a (.ref (C.ca x.c)) (some dd)) Hs1 H1 (σ1.set i (some (.ref a))) (e1.suite i x) fe2 f0 P := by
            refine ⟨ok2.wf, ?_, fun p hpp => ?_, a, dd, rfl, ex1⟩
            · refine ok2.sl.any (by rw [List.length_set]) fun j d hj => ?_
              by_cases e : i = j
              · subst e
                exact absurd hj (delL_at (e := e1) (vs := [i]) List.mem_cons_self d)
              · rw [List.getElem?_set_ne e]
            · rcases List.mem_cons.mp hpp with z | z
              · rw [z, List.getElem?_set_self (by rw [ok1.sl.len]; exact hil)]
              · rw [List.getElem?_set_ne (Ne.symm (hp p z))]
                exact ok1.pn p z
          refine ⟨e1.suite i x, Hs1, fe2, P, ok3, ?_⟩
          have q2 := q.shift a1
          -- the suite's end
          have done : ∀ {σ' : L2.St} {e' : En} {Hs' H' : Hp} {fe' fx : Fp}, Ok (C.su i a (.ref (C.ca x.c)) (some dd)) Hs' H' σ' e' fe' fx P → ∃ fe2, Ok C Hs' H' (σ'.set i none) (e'.calm i) fe2 fx P := by
            intro σ' e' Hs' H' fe' fx ok'
            obtain ⟨fe3, ok4⟩ := ok'.del i
            refine ⟨fe3, ⟨ok4.wf, ?_, fun p hpp => ?_, trivial⟩⟩
            · refine ok4.sl.any (by rw [List.length_set]) fun j d hj => ?_
              by_cases e : i = j
              · subst e
                exact absurd hj (delL_at (e := e') (vs := [i]) List.mem_cons_self d)
              · rw [List.getElem?_set_ne e]
            · rw [List.getElem?_set_ne (Ne.symm (hp p hpp))]
              exact ok'.pn p (List.mem_cons_of_mem _ hpp)
          generalize Ss (e1.suite i x) = r2 at q2 ⊢
          cases r2 with
          | bad => exact q2.elim
          | exc x2 e2 => exact q2.elim
          | nx e2 =>
            intro σ' Hs' H' fe' a2 ok'
            obtain ⟨fe3, ok4⟩ := done ok'
            exact q2 _ Hs' H' fe3 a2 ok4
          | bk e2 =>
            intro σ' Hs' H' fe' a2 ok'
            obtain ⟨fe3, ok4⟩ := done ok'
            exact q2 _ Hs' H' fe3 a2 ok4
          | ct e2 =>
            intro σ' Hs' H' fe' a2 ok'
            obtain ⟨fe3, ok4⟩ := done ok'
            exact q2 _ Hs' H' fe3 a2 ok4
          | rt d2 e2 =>
            intro v σ' Hs' H' fe' fv a2 ok' rv
            obtain ⟨fe3, ok4⟩ := done ok'
            exact q2 v _ Hs' H' fe3 fv a2 ok4 rv
        · subst hk0
          exact q dd σ1 Hs1 H1 fe1 a1 ok1 ex1
end
end Bx

set_option Elab.async false
set_option linter.all false
set_option maxRecDepth 100000
set_option maxHeartbeats 1000000
/-! Slices. -/
namespace Bx
open PySem L2

def cutD (xs : List D) (lo hi : Option Int) : List D := List.take (HT.sIx xs.length xs.length hi - HT.sIx xs.length 0 lo) (List.drop (HT.sIx xs.length 0 lo) xs)
def sliceD (d : D) (lo hi : Option Int) : Option D := match d with
  | .str z => if z.length ≤ lim then some (.str (cutS z lo hi)) else none
  | d => match d.seq with
    | some (true, xs) => some (.nd .lst true (cutD xs lo hi))
    | some (false, xs) => if HT.sIx xs.length 0 lo = 0 ∧ HT.sIx xs.length xs.length hi = xs.length then none else some (.nd .tup false (cutD xs lo hi))
    | none => none
def pE (a : Option FE) : En → Rs (Option Int) := fun e => match a with
  | none => .ok none e
  | some a => (a e).bind fun x e1 => match x with
    | .int i => .ok (some i) e1
    | _ => .bad
def eSl (a : FE) (lo hi : Option FE) : FE := fun e => (a e).bind fun x e1 => (pE lo e1).bind fun l e2 => (pE hi e2).bind fun h e3 => .opt (sliceD (frz x) l h) e3
def EndP (C : Cc) (W : WX) (r : Rs (Option Int)) (Hs H : Hp) (P : Addr → Prop) (σ : L2.St) (Q : Option Int → Hp → Prop) : Prop := match r with
  | .bad => False
  | .ok b e' => ∀ Hs' H' fe', Aft Hs H Hs' H' P → Ok C Hs' H' σ e' fe' f0 P → Q b H'
  | .exc x e' => XcK C W Hs H P σ x e'
def canP (C : Cc) (W : WX) (F : En → Rs (Option Int)) : TO := fun σ H Q => ∃ e Hs fe P, Ok C Hs H σ e fe f0 P ∧ EndP C W (F e) Hs H P σ Q
def BP (X : Cx) (C : Cc) (W : WX) (o : Option Expr) (F : En → Rs (Option Int)) : Prop := PO X o (canP C W F)
theorem _root_.L2.PO.imp {X : Cx} {e : Option Expr} {t t' : TO} (h : PO X e t) (i : ∀ σ H Q, t' σ H Q → t σ H Q) : PO X e t' := ⟨fun pins s σ H Q I q => h.run pins s σ H Q I (i _ _ _ q)⟩
section
variable {X : Cx} {C : Cc} {W : WX} {pos p2 : Pos} {a b : Expr} {Fa Fb : FE} {lo hi : Option Expr} {Fl Fh : Option FE}
theorem bp_none : BP X C W none (pE none) := po_none.imp fun σ H Q ⟨e, Hs, fe, P, ok, q⟩ => q Hs H fe (Aft.refl _ _ _) ok
theorem bp_some (ha : BE X C W a Fa) : BP X C W (some a) (pE (some Fa)) := (po_some ha).imp fun σ H Q ⟨e, Hs, fe, P, ok, q⟩ => by
  have qz : EndZ C W (Fa e) Hs H P σ fun x e1 => EndP C W (match x with
    | .int i => .ok (some i) e1
    | _ => .bad) Hs H P σ Q := by
    unfold pE at q
    dsimp only at q
    cases h : Fa e with
    | bad => rw [h] at q; exact q
    | ok d e1 => rw [h] at q; exact q
    | exc x e1 => rw [h] at q; exact q
  refine firstE ok qz fun d e1 v Hs1 H1 fe1 fv1 a1 ok1 r1 q1 => ?_
  cases d with
  | int i => exact ⟨i, r1.toI, q1 Hs1 H1 fe1 a1 (ok1.less fun _ => Nat.zero_le _)⟩
  | _ => exact q1.elim
theorem bindP {R : Hp → Hp → Prop} {b : En → Rs (Option Int)} {Hs H : Hp} {σ : L2.St} {e : En} {fe fv : Fp} {P : Addr → Prop} {Z : Option Int → En → Prop} {T : Option Int → Hp → Prop} (ok : Ok C Hs H σ e fe fv P) (hR : Held R fv Hs H) (h : EndZ C W (b e) Hs H P σ Z)
    (hk : ∀ d2 e2 Hs2 H2 fe2, Aft Hs H Hs2 H2 (fun b => P b ∨ fv b ≠ 0) → Ok C Hs2 H2 σ e2 fe2 fv P → R Hs2 H2 → Z d2 e2 → T d2 H2) : canP C W b σ H T := by
  refine ⟨e, Hs, fe, _, ok.holdR hR, ?_⟩
  unfold EndZ at h
  unfold EndP
  generalize b e = re at h ⊢
  cases re with
  | bad => exact h
  | exc x e' => exact XcK.unhold h fun b hb => .inl hb
  | ok d e' =>
    intro Hs2 H2 fe2 a ok2
    exact hk d e' Hs2 H2 fe2 a ((ok2.back (fun b => by have := ok.wf.one b; omega) (fun b hb => by have := ok.wf.apart b hb; omega) (fun b hb => ok.wf.own b (by omega)) a).fps (fun _ => rfl) fun b => rfl) (hR.on ok a) h
def rSlA (K : PySem.W.Frag) : V → Option Int → Option Int → Hp → VK → Prop := fun x lo hi H Q => rSlL K x lo hi H Q ∨ (rSlS x lo hi H Q ∨ rSlT K x lo hi H Q)
theorem sl_A : SlR X (rSlA X.K) := fun pins s σ H x v vl vu lo hi sl Q I rx h1 h2 h3 h => by
  rcases h with h | h | h
  · exact sl_list pins s σ H x v vl vu lo hi sl Q I rx h1 h2 h3 h
  · exact sl_str pins s σ H x v vl vu lo hi sl Q I rx h1 h2 h3 h
  · exact sl_tup pins s σ H x v vl vu lo hi sl Q I rx h1 h2 h3 h
theorem rps_cut {G : Gc} {Hs H : Hp} : ∀ {vs : List V} {ds : List D} (n : Nat), Rps G Hs H vs ds f0 → Rps G Hs H (vs.take n) (ds.take n) f0 ∧ Rps G Hs H (vs.drop n) (ds.drop n) f0
  | _, _, 0, r => ⟨.nil fun _ => rfl, r⟩
  | _, _, n + 1, .nil _ => ⟨.nil fun _ => rfl, .nil fun _ => rfl⟩
  | _, _, n + 1, .cons (f := f1) (g := g1) r rs e => by
    have hf : ∀ b, f0 b = f1 b := fun b => by have := e b; simp only [f0] at *; omega
    have hg : ∀ b, f0 b = g1 b := fun b => by have := e b; simp only [f0] at *; omega
    obtain ⟨h1, h2⟩ := rps_cut n (rs.fp hg)
    exact ⟨.cons (r.fp hf) h1 fun b => rfl, h2⟩
theorem sliceS {G : Gc} {Hs H : Hp} {v : V} {d z : D} {lo hi : Option Int} {Q : VK} (s : Sm Hs H) (r : Rp G Hs H v d f0) (hz : sliceD d lo hi = some z) (q : ∀ v Hs' H' fv, New Hs H Hs' H' fv → Rp G Hs' H' v z fv → Q v H') : rSlA G.K v lo hi H Q := by
  unfold sliceD at hz
  split at hz
  · split at hz
    · rename_i h
      cases hz
      rw [r.toS]
      exact .inr (.inl ⟨_, rfl, lim_le h, res0 s q (r_str _)⟩)
    · cases hz
  · split at hz
    · rename_i xs hs
      cases hz
      obtain ⟨a, vs, g, rfl, h1, _, rs, le⟩ := r.seq s hs
      have rz := rs.z le
      refine .inl ⟨a, vs, rfl, h1 rfl, fun p hp => ?_⟩
      have e : cutV vs lo hi = List.take (HT.sIx xs.length xs.length hi - HT.sIx xs.length 0 lo) (List.drop (HT.sIx xs.length 0 lo) vs) := by unfold cutV; rw [rs.len]
      rw [e]
      exact resLst s q (rps_cut _ (rps_cut _ rz).2).1 hp
    · rename_i xs hs
      split at hz
      · cases hz
      · rename_i hn
        cases hz
        obtain ⟨a, vs, g, rfl, _, h1, rs, le⟩ := r.seq s hs
        have rz := rs.z le
        refine .inr (.inr ⟨a, vs, rfl, h1 rfl, by rw [rs.len]; exact hn, fun p hp => ?_⟩)
        have e : cutV vs lo hi = List.take (HT.sIx xs.length xs.length hi - HT.sIx xs.length 0 lo) (List.drop (HT.sIx xs.length 0 lo) vs) := by unfold cutV; rw [rs.len]
        rw [e]
        exact resTup s q (rps_cut _ (rps_cut _ rz).2).1 hp
    · cases hz
theorem be_sl (hk : X.K = C.K) (ha : BE X C W a Fa) (hl : BP X C W lo (pE Fl)) (hh : BP X C W hi (pE Fh)) : BE X C W (.Subscript a (.Slice lo hi none p2) pos) (eSl Fa Fl Fh) :=
  (pe_slice sl_A ha hl hh).imp fun σ H Q ⟨e, Hs, fe, P, ok, q⟩ => by
    refine firstE ok q.bind fun d1 e1 v1 Hs1 H1 fe1 fv1 a1 ok1 r1 q1 => ?_
    obtain ⟨Hs2, a2, ok2, r2, _⟩ := (ok1.fps (fun _ => rfl) (fx' := fun b => fv1 b + f0 b) fun _ => rfl).freeze r1
    have q2 := q1.shift (a1.trans a2)
    refine bindP ok2 (.rp r2) q2.bind fun l e3 Hs3 H3 fe3 a3 ok3 r3 q3 => ?_
    have q3' := q3.shift (a3.weak fun b hb => .inl hb)
    refine bindP ok3 (.rp r3) q3'.bind fun u e4 Hs4 H4 fe4 a4 ok4 r4 q4 => ?_
    have q5 := q4.shift (a4.weak fun b hb => .inl hb)
    cases hz : sliceD (frz d1) l u with
    | none => rw [hz] at q5; exact q5.elim
    | some z =>
      rw [hz] at q5
      show rSlA X.K _ _ _ _ _
      rw [hk]
      exact sliceS (G := C.toGc) ok4.sm r4 hz fun v Hs6 H6 fv n rz => q5 v Hs6 H6 fe4 fv (n.aft ok4) ((ok4.new n fun _ h => absurd rfl h).fps (fun _ => rfl) fun _ => (Nat.zero_add _).symm) rz
end
end Bx

set_option Elab.async false
set_option linter.all false
set_option maxRecDepth 100000
set_option maxHeartbeats 1000000
/-! Odds and ends. -/
namespace Bx
open PySem L2
def addID : D → D → Option D
  | .int i, .int j => some (.int (i + j))
  | _, _ => none
theorem addIS {G : Gc} : OpS G (rI0 fun i j => .int (i + j)) addID := by
  intro Hs H v1 v2 d1 d2 z Q s r1 r2 hz q
  unfold addID at hz
  split at hz
  · cases hz
    rw [r1.toI, r2.toI]
    exact ⟨_, _, rfl, rfl, res0 s q (r_int _)⟩
  · cases hz
/-- truth of any value -/
def truD : D → Option Bool
  | .non => some false
  | .bl k => some k
  | .int i => some (i != 0)
  | .str x => if x.length ≤ lim then some ((x.length : Int) != 0) else none
  | .nd k _ xs => match k with
    | .lst => some (!xs.isEmpty) | .tup => some (!xs.isEmpty) | .wl => some (!xs.isEmpty) | .wt => some (!xs.isEmpty) | _ => none
  | _ => none
def tTru (a : FE) : FT := fun e => (a e).bind fun d e1 => .opt (truD d) e1
theorem Rps.empty {G : Gc} {Hs H : Hp} {vs : List V} {xs : List D} {f : Fp} (r : Rps G Hs H vs xs f) : vs.isEmpty = xs.isEmpty := by cases r <;> rfl
theorem truS {G : Gc} {Hs H : Hp} {v : V} {d : D} {f : Fp} {k : Bool} (s : Sm Hs H) (r : Rp G Hs H v d f) (h : truD d = some k) : TruV G.K v H k := by
  cases d with
  | non => cases h; rw [r.toN]; rfl
  | bl _ => cases h; rw [r.toB]; rfl
  | int _ => cases h; rw [r.toI]; rfl
  | str x =>
    have h' : (if x.length ≤ lim then some ((x.length : Int) != 0) else none) = some k := h
    split at h'
    · rename_i hl; cases h'; rw [r.toS]; exact ⟨lim_le hl, rfl⟩
    · cases h'
  | ty _ => cases h
  | nd kd o xs =>
    cases kd with
    | lst => cases h; obtain ⟨a, vs, g, rfl, h1, _, rs, _⟩ := r.seq s (b := true) (xs := xs) rfl; exact .inl ⟨vs, h1 rfl, by rw [rs.empty]⟩
    | wl => cases h; obtain ⟨a, vs, g, rfl, h1, _, rs, _⟩ := r.seq s (b := true) (xs := xs) rfl; exact .inl ⟨vs, h1 rfl, by rw [rs.empty]⟩
    | tup => cases h; obtain ⟨a, vs, g, rfl, _, h1, rs, _⟩ := r.seq s (b := false) (xs := xs) rfl; exact .inr (.inl ⟨vs, h1 rfl, by rw [rs.empty]⟩)
    | wt => cases h; obtain ⟨a, vs, g, rfl, _, h1, rs, _⟩ := r.seq s (b := false) (xs := xs) rfl; exact .inr (.inl ⟨vs, h1 rfl, by rw [rs.empty]⟩)
    | _ => cases h
theorem bt_tru {X : Cx} {C : Cc} {W : WX} {a : Expr} {Fa : FE} (hk : X.K = C.K) (h : BE X C W a Fa) (he : ∀ whole, isTrue a X.env whole = (do let v ← whole; standAt a.pos; holding [v] (truthy v))) : BT X C W a (tTru Fa) :=
  (pt_truth h he).imp fun σ H Q ⟨e, Hs, fe, P, ok, q⟩ => by
    refine firstE ok q.bind fun d e1 v Hs1 H1 fe1 fv1 a1 ok1 r1 q1 => ?_
    cases ht : truD d with
    | none => rw [ht] at q1; exact q1.elim
    | some k =>
      rw [ht] at q1
      exact ⟨k, by rw [hk]; exact truS (G := C.toGc) ok1.sm r1 ht, q1 Hs1 H1 fe1 a1 (ok1.less fun _ => Nat.zero_le _)⟩
/-- nothing is claimed of a call without fuel -/
theorem def_bad {P : Program} {w : World} {K : PySem.W.Frag} {mg : Str → Option Value} {base : Heap} {CX : CXT} {k n : Nat} {f : Addr} {fd : FuncData} {ps : List Str} {G : Gc} : FnOk P w K mg base CX k f fd ps (spD G n fun _ => .bad) :=
  ⟨fun vs H Q E h => by obtain ⟨_, _, _, _, _, _, _, q⟩ := h; exact q.elim, fun A outer s H args us vs Q E _ _ _ _ h => by obtain ⟨_, _, _, _, _, _, _, q⟩ := h; exact q.elim⟩
section
variable {X : Cx} {pos p apos : Pos} {a b e o : Expr} {es : List Expr} {x : Str} {id T : String} {r : List V → Hp → VK → Prop}
theorem be_ty {C : Cc} {W : WX} (hg : Gl X x) (hm : X.mg x = none) (hv : bootBuiltins x = some (.type T)) (hn : x ≠ "__name__") (hd : (x == ("__debug__" : Str)) = false) : BE X C W (.Name x p) (eC (.ty T)) := be_c (pe_bltn (v := .ty T) hg hm hv rfl hn hd) fun _ _ => .ty fun _ => rfl
/-! the layer's rules without automatic premises -/
theorem pcB (hc : CallR X (.builtin id) r) (hg : Gl X x) (hm : X.mg x = none) (hv : bootBuiltins x = some (.builtin id)) (hn : x ≠ "__name__") (hd : (x == ("__debug__" : Str)) = false) (hs : starEach (e :: es) X.env = (false, eval e X.env) :: starEach es X.env) (hp : (backTo pos (starEach es X.env)).any (·.1) = false) :
    ∀ t, PA X (e :: es) t → PE X (.Call (.Name x p) (e :: es) [] pos) (tCB r t) := fun _ ha => pe_callB hc hg hm hv ha hn hd hs hp
theorem pcT (hc : CallR X (.type T) r) (hg : Gl X x) (hm : X.mg x = none) (hv : bootBuiltins x = some (.type T)) (hn : x ≠ "__name__") (hd : (x == ("__debug__" : Str)) = false) (hs : starEach (e :: es) X.env = (false, eval e X.env) :: starEach es X.env) (hp : (backTo pos (starEach es X.env)).any (·.1) = false) :
    ∀ t, PA X (e :: es) t → PE X (.Call (.Name x p) (e :: es) [] pos) (tCB r t) := fun _ ha => pe_callTy hc hg hm hv ha hn hd hs hp
theorem pcApp {i : Nat} (ho : PE X o (tVar i)) (h1 : attributeBase o "append" X.env (eval o X.env) = eval o X.env) (h2 : ((backTo pos (starEach [e] X.env)).all (!·.1) && (backToKw pos (keywordEach [] X.env)).all (·.1.isSome) && decide (([e].length + ([] : List Keyword).length + if ([] : List Keyword).isEmpty then 0 else 1) < 30)) = true) (h3 : (apos.endLine == pos.line) = true)
    (h4 : starEach [e] X.env = (false, eval e X.env) :: starEach [] X.env) (h5 : (backTo pos (starEach [] X.env)).any (·.1) = false) : ∀ t, PA X [e] t → PE X (.Call (.Attribute o "append" apos) [e] [] pos) (tBM X.K "list" rAppend (tVar i) t) :=
  fun _ ha => pe_bm PySem.F.plainAttrs_list PySem.F.slot_list_append PySem.F.type_list_append mt_append ho ha h1 h2 h3 h4 h5
theorem psTup {tg : Expr} (h1 : swapsWithSole [tg] e pos.line X.env = pure false) (h2 : swappedStores [tg] e X.env = pure none) (h3 : (assignEach [tg] X.env).map (·.2) = [assign tg X.env]) : ∀ te gg, PE X e te → PG X tg gg → PS X (.Assign [tg] e pos) (tAsg te gg) := fun _ _ ha hg => ps_asg ha hg h1 h2 h3
theorem psSub {i : Nat} (hu : X.A.units + 64 < cLine) (ho : PE X o (tVar i)) (h0 : ∀ v, assign (.Subscript o b p) X.env v = (do
      let ov ← holding [v] (eval o X.env)
      let iv ← holding [v, ov] (eval b X.env)
      standAt p
      holding [v, ov, iv] (setItem ov iv v)
      release [v, ov, iv] [])) (h1 : swapsWithSole [.Subscript o b p] e pos.line X.env = pure false) (h2 : swappedStores [.Subscript o b p] e X.env = pure none) (h3 : (assignEach [.Subscript o b p] X.env).map (·.2) = [assign (.Subscript o b p) X.env]) :
    ∀ te ti, PE X e te → PE X b ti → PS X (.Assign [.Subscript o b p] e pos) (tAsg te (gSub (tVar i) ti (rSetA X.K X.prog X.w))) := fun _ _ ha hb => ps_asg ha (pg_sub ho hb (set_A hu) h0) h1 h2 h3
end
end Bx

set_option Elab.async false
set_option linter.all false
set_option maxRecDepth 100000
set_option maxHeartbeats 1000000
/-! Instances of own classes: attributes. -/
namespace Bx
open PySem L2
theorem lookup_kpos {f : Str} : ∀ {fn : List Str} {vs : List V}, fn.length = vs.length → (fn.zip vs).lookup f = (kpos fn f).bind (vs[·]?)
  | [], [], _ => rfl
  | [], _ :: _, h => by cases h
  | _ :: _, [], h => by cases h
  | g :: fn, v :: vs, h => by
    have ih := lookup_kpos (f := f) (fn := fn) (vs := vs) (by simpa using h)
    rw [List.zip_cons_cons, List.lookup_cons]
    unfold kpos
    by_cases e : g = f
    · subst e
      rw [if_pos rfl, beq_self_eq_true]
      rfl
    · rw [if_neg e, show (f == g) = false from by simpa using fun z => e z.symm, ih]
      cases kpos fn f <;> rfl
section
variable {G : Gc} {Hs H : Hp}
theorem AtR.ins {a : Addr} {c : Str} {fn : List Str} {vs : List V} {o : Bool} (s : Sm Hs H) (h : AtR G Hs H a (.ins c fn) vs o) : fn.length = vs.length ∧ ∃ dx, H a = some (.ins (G.ca c) dx (fn.zip vs)) := by
  rcases h with h | ⟨⟨h1, dx, h2⟩, _, _⟩ | ⟨_, h⟩
  · exact h
  · exact ⟨h1, dx, sm_ins s h2⟩
  · exact h
end
/-- which classes have it in their instances -/
def Has (K : PySem.W.Frag) (ca : Str → Addr) (cs : List Str) (f : Str) : Prop := ∀ c, cs.contains c = true → Cls K (ca c) ∧ NoAttr K (ca c) f
/-- x.f, x a slot's name: the field is frozen where it stands -/
def eAtN (cs : List Str) (i : Nat) (f : Str) : FE := fun e => match e.sl[i]? with
  | some (some (.nd (.ins c fn) o xs)) => if cs.contains c then (match kpos fn f with
    | some j => (match xs[j]? with
      | some d => .ok (frz d) { e with sl := e.sl.set i (some (if o then .nd (.ins c fn) o (xs.set j (frz d)) else .nd (.ins c fn) o xs)) }
      | none => .bad)
    | none => .bad) else .bad
  | _ => .bad
section
variable {X : Cx} {C : Cc} {W : WX} {pos : Pos} {a b c : Expr} {es : List Expr} {Fa Fb Fc : FE} {As : FA}
theorem be_atN {cs : List Str} {i : Nat} {f : Str} (hk : X.K = C.K) (hC : Has C.K C.ca cs f) (ha : PE X a (tVar i)) (hb : attributeBase a f X.env (eval a X.env) = eval a X.env) : BE X C W (.Attribute a f pos) (eAtN cs i f) :=
  (pe_fld ha hb).imp fun σ H Q ⟨e, Hs, fe, P, ok, q⟩ => by
    unfold eAtN at q
    split at q
    · rename_i c fn o xs h1
      split at q
      · rename_i hc
        split at q
        · rename_i j hj
          split at q
          · rename_i d hd
            obtain ⟨v, f1, f2, e3, r1, e4, ok4, put⟩ := ok.slot h1
            refine ⟨v, e3, ?_⟩
            have ok4' : Ok C Hs H σ { e with sl := e.sl.set i none } f2 f1 P := ok4.fps (fun _ => rfl) fun b => rfl
            obtain ⟨a, vs, u, Hs4, f1', rfl, at_, ⟨_, hl⟩, hu', af, ok5, ru, rn⟩ := ok4'.itemFrz r1 hd
            obtain ⟨hfl, dx, hH⟩ := at_.ins ok.sm
            obtain ⟨c1, c2⟩ := hC c hc
            refine ⟨a, _, dx, _, u, rfl, hH, by rw [hk]; exact c1, by rw [hk]; exact c2, by rw [lookup_kpos hfl, hj]; exact hu', ?_⟩
            exact q u Hs4 H _ f0 af (put (e' := e) (ok5.fps (fun _ => rfl) fun b => rfl) rn) ru
          · exact q.elim
        · exact q.elim
      · exact q.elim
    · exact q.elim
end
section
variable {C : Cc} {Hs H : Hp} {σ : L2.St} {e : En} {fe fx : Fp} {P : Addr → Prop}
/-- a slot's owned node is written anew, a value at hand may go into it -/
theorem Ok.node {i : Nat} {k : Kd} {xs : List D} {fd : Fp} (ok : Ok C Hs H σ e fe fd P) (h : e.sl[i]? = some (some (.nd k true xs))) :
    ∃ (a : Addr) (vs : List V) (g : Fp), σ[i]? = some (some (.ref a)) ∧ At C.toGc H a k vs ∧ Rps C.toGc Hs H vs xs g ∧ vs.length = xs.length ∧ (∀ o, Rps C.toGc Hs (upd H a o) vs xs g) ∧
      (∀ o u d, Rp C.toGc Hs H u d fd → Rp C.toGc Hs (upd H a o) u d fd) ∧
      ∀ (o : HO) (k' : Kd) (vs' : List V) (xs' : List D) (fn : Fp), At C.toGc (upd H a o) a k' vs' → k'.ow = true → (∀ b, fn b ≤ g b + fd b) → Rps C.toGc Hs (upd H a o) vs' xs' fn →
        ∃ fe', Aft Hs H Hs (upd H a o) P ∧ Ok C Hs (upd H a o) σ (e.put i (.nd k' true xs')) fe' f0 P := by
  obtain ⟨v, f1, f2, e1, r1, e2, ok1, put⟩ := ok.slot h
  cases r1 with
  | @own a _ vs _ g _ at_ hw nHs rs eg =>
    have ha1 : f1 a ≠ 0 := by rw [eg a, if_pos rfl]; omega
    have one := ok1.wf.one
    have up : ∀ (o : HO) b, b ≠ a → (upd H a o) b = H b := fun o b hb => upd_ne hb
    have g_a : g a = 0 := by have := one a; have := eg a; rw [if_pos rfl] at this; omega
    have fd_a : fd a = 0 := by have := one a; have := eg a; rw [if_pos rfl] at this; omega
    refine ⟨a, vs, g, e1, at_, rs, rs.len, fun o => rs.mono (Same.refl _) fun b hb => ⟨up o b fun z => hb (by rw [z]; exact g_a), (rs.live b hb).2⟩,
      fun o u d rd => rd.mono (Same.refl _) fun b hb => ⟨up o b fun z => hb (by rw [z]; exact fd_a), (rd.live b hb).2⟩, ?_⟩
    intro o k' vs' xs' fn at' w' le rs'
    obtain ⟨ok2, af⟩ := ok1.chg (o := o) (a := a) (by omega) (at_.nofrz hw)
    have ok3 : Ok C Hs (upd H a o) σ { e with sl := e.sl.set i none } f2 (fun b => (fn b + if b = a then 1 else 0) + f0 b) P := ok2.less fun b => by have := le b; have := eg b; show fn b + (if b = a then 1 else 0) + 0 ≤ f1 b + fd b; omega
    exact ⟨_, af, put (e' := e) ok3 (.own at' w' nHs rs' fun b => rfl)⟩
end
theorem putF_old {f : Str} {v : V} : ∀ {fn : List Str} {vs : List V} {j : Nat}, fn.length = vs.length → kpos fn f = some j → putF f v (fn.zip vs) = fn.zip (vs.set j v)
  | [], _, _, _, h => by cases h
  | _ :: _, [], _, h, _ => by cases h
  | g :: fn, w :: vs, j, hl, h => by
    unfold kpos at h
    rw [List.zip_cons_cons]
    unfold putF
    by_cases e : g = f
    · rw [if_pos e] at h; cases h
      rw [if_pos e]; rfl
    · rw [if_neg e] at h
      obtain ⟨i, h1, rfl⟩ := Option.map_eq_some_iff.mp h
      rw [if_neg e, putF_old (by simpa using hl) h1]; rfl
theorem putF_new {f : Str} {v : V} : ∀ {fn : List Str} {vs : List V}, fn.length = vs.length → kpos fn f = none → putF f v (fn.zip vs) = (fn ++ [f]).zip (vs ++ [v])
  | [], [], _, _ => rfl
  | [], _ :: _, h, _ => by cases h
  | _ :: _, [], h, _ => by cases h
  | g :: fn, w :: vs, hl, h => by
    unfold kpos at h
    rw [List.zip_cons_cons]
    unfold putF
    by_cases e : g = f
    · rw [if_pos e] at h; cases h
    · rw [if_neg e] at h
      have h1 : kpos fn f = none := by simpa using h
      rw [if_neg e, putF_new (by simpa using hl) h1]; rfl
/-- a field's new value -/
def putFD (c : Str) (fn : List Str) (xs : List D) (f : Str) (d : D) : D := match kpos fn f with
  | some j => .nd (.ins c fn) true (xs.set j d)
  | none => .nd (.ins c (fn ++ [f])) true (xs ++ [d])
def En.ownI (e : En) (cs : List Str) (i : Nat) : Option (Str × List Str × List D) := match e.sl[i]? with
  | some (some (.nd (.ins c fn) true xs)) => if cs.contains c && decide (fn.length < 1000) then some (c, fn, xs) else none
  | _ => none
theorem En.ownI_some {e : En} {cs : List Str} {i : Nat} {c : Str} {fn : List Str} {xs : List D} (h : e.ownI cs i = some (c, fn, xs)) : e.sl[i]? = some (some (.nd (.ins c fn) true xs)) ∧ cs.contains c = true ∧ fn.length < 1000 := by
  unfold En.ownI at h
  split at h
  · rename_i c' fn' xs' h'
    split at h
    · rename_i hc
      cases h
      have hc' := Bool.and_eq_true_iff.mp hc
      exact ⟨h', hc'.1, of_decide_eq_true hc'.2⟩
    · cases h
  · cases h
/-- x.f = a -/
def fAtS (cs : List Str) (i : Nat) (f : Str) (a : FE) : FS := fun e => (a e).toS fun d e1 => match e1.ownI cs i with
  | some (c, fn, xs) => .nx (e1.put i (putFD c fn xs f d))
  | none => .bad
section
variable {C : Cc} {Hs H : Hp} {σ : L2.St} {e : En} {fe fx : Fp} {P : Addr → Prop}
theorem Ok.fld {cs : List Str} {i : Nat} {c f : Str} {fn : List Str} {xs : List D} {d : D} {u : V} {fd : Fp} (ok : Ok C Hs H σ e fe fd P) (ho : e.ownI cs i = some (c, fn, xs)) (rd : Rp C.toGc Hs H u d fd) :
    ∃ (a dx : Addr) (vs : List V), σ[i]? = some (some (.ref a)) ∧ H a = some (.ins (C.ca c) dx (fn.zip vs)) ∧ fn.length = vs.length ∧ (fn.zip vs).length < 1000 ∧ cs.contains c = true ∧
      ∃ fe', Aft Hs H Hs (upd H a (.ins (C.ca c) dx (putF f u (fn.zip vs)))) P ∧ Ok C Hs (upd H a (.ins (C.ca c) dx (putF f u (fn.zip vs)))) σ (e.put i (putFD c fn xs f d)) fe' f0 P := by
  obtain ⟨h1, h2, h3⟩ := En.ownI_some ho
  obtain ⟨a, vs, g, e1, at_, rs, hl, rsu, rdu, fin⟩ := ok.node h1
  obtain ⟨hfl, dx, hH⟩ := at_
  refine ⟨a, dx, vs, e1, hH, hfl, by rw [List.length_zip]; omega, h2, ?_⟩
  cases hj : kpos fn f with
  | some j =>
    obtain ⟨f1', f2', q1, q2⟩ := rps_set (rsu (.ins (C.ca c) dx (putF f u (fn.zip vs)))) (i := j) (by have := kpos_lt hj; omega) (rdu _ _ _ rd)
    have := fin (.ins (C.ca c) dx (putF f u (fn.zip vs))) (.ins c fn) (vs.set j u) (xs.set j d) _ ⟨by rw [List.length_set]; exact hfl, dx, by rw [upd_same, putF_old hfl hj]⟩ rfl (fun b => by have := q1 b; show fd b + f2' b ≤ _; omega) q2
    unfold putFD
    rw [hj]
    exact this
  | none =>
    have := fin (.ins (C.ca c) dx (putF f u (fn.zip vs))) (.ins c (fn ++ [f])) (vs ++ [u]) (xs ++ [d]) (fun b => g b + fd b) ⟨by simp [hfl], dx, by rw [upd_same, putF_new hfl hj]⟩ rfl (fun b => Nat.le_refl _)
      ((rsu _).app (.cons (rdu _ _ _ rd) (.nil (f := f0) fun _ => rfl) (h := fd) fun b => rfl) fun b => rfl)
    unfold putFD
    rw [hj]
    exact this
end
section
variable {X : Cx} {C : Cc} {W : WX} {pos : Pos} {a b c o : Expr} {Fa Fb : FE} {st : Stmt} {i : Nat}
theorem bs_atS {cs : List Str} {f : Str} {pos' : Pos} (hk : X.K = C.K) (hC : Has C.K C.ca cs f) (ho : PE X o (tVar i)) (ha : BE X C W a Fa) (hs : swapsWith a (some (.Attribute o f pos')) pos.line X.env = pure false) :
    BS X C W (.Assign [.Attribute o f pos'] a pos) (fAtS cs i f Fa) :=
  (ps_fld ho ha hs).imp fun N σ H ⟨e, Hs, fe, P, ok, q⟩ => by
    refine firstE ok (q.bind σ) fun d e1 v Hs1 H1 fe1 fv1 a1 ok1 r1 q1 => ?_
    cases h : e1.ownI cs i with
    | none => rw [h] at q1; exact q1.elim
    | some z =>
      obtain ⟨c, fn, xs⟩ := z
      rw [h] at q1
      obtain ⟨p, dx, vs, hv, hH, hl, h9, hc, fe', af, ok2⟩ := ok1.fld (f := f) h r1
      obtain ⟨c1, c2⟩ := hC c hc
      exact ⟨_, hv, p, _, dx, _, rfl, hH, by rw [hk]; exact c1, by rw [hk]; exact c2, h9, q1 σ Hs1 _ fe' (a1.trans af) ok2⟩
end
/-- x.f op= a, the field a scalar -/
def fAtAug (cs : List Str) (i : Nat) (f : Str) (g : D → D → Option D) (a : FE) : FS := fun e => match e.ownI cs i with
  | some (c, fn, xs) => (match (kpos fn f).bind (xs[·]?) with
    | some d => if d.sc then (a e).toS fun y e1 => (match e1.ownI cs i with
      | some (c', fn', xs') => if c' = c then (match g d (frz y) with
        | some z => .nx (e1.put i (putFD c' fn' xs' f z))
        | none => .bad) else .bad
      | none => .bad) else .bad
    | none => .bad)
  | none => .bad
section
variable {X : Cx} {C : Cc} {W : WX} {pos : Pos} {a b c o : Expr} {Fa Fb : FE} {st : Stmt} {i : Nat}
theorem bs_atAug {cs : List Str} {f : Str} {op : Operator} {tpos : Pos} {r : R2} {g : D → D → Option D} (hk : X.K = C.K) (hC : Has C.K C.ca cs f) (ho : PE X o (tVar i)) (hop : OpR X (inplaceOp op) r) (hs : OpS C.toGc r g) (ha : BE X C W a Fa) :
    BS X C W (.AugAssign (.Attribute o f tpos) op a pos) (fAtAug cs i f g Fa) :=
  (ps_fldaug ho ha (rd := r) (fun pins s σ H x y u v Q I rx ry h => hop pins s σ H x y u v Q I rx ry h)).imp fun N σ H ⟨e, Hs, fe, P, ok, q⟩ => by
    unfold fAtAug at q
    cases h : e.ownI cs i with
    | none => rw [h] at q; exact q.elim
    | some z =>
      obtain ⟨c, fn, xs⟩ := z
      rw [h] at q
      dsimp only at q
      cases hd : (kpos fn f).bind (xs[·]?) with
      | none => rw [hd] at q; exact q.elim
      | some d =>
        rw [hd] at q
        dsimp only at q
        by_cases hsc : d.sc = true
        · rw [if_pos hsc] at q
          obtain ⟨h1, h2, h3⟩ := En.ownI_some h
          obtain ⟨p, vs, g0, hv, at_, rs, hl, _, _, _⟩ := ok.node h1
          obtain ⟨hfl, dx, hH⟩ := at_
          obtain ⟨c1, c2⟩ := hC c h2
          obtain ⟨j, hj, hx⟩ := Option.bind_eq_some_iff.mp hd
          obtain ⟨u, g1, g2, hu, ru, _, _⟩ := rs.get hx
          refine ⟨_, hv, p, _, dx, _, u, rfl, hH, by rw [hk]; exact c1, by rw [hk]; exact c2, by rw [lookup_kpos hfl, hj]; exact hu, ?_⟩
          refine firstE ok (EndS.bind q σ) fun y e1 v Hs1 H1 fe1 fv1 a1 ok1 r1 q1 => ?_
          obtain ⟨Hs3, a3, ok3, r3, _⟩ := (ok1.fps (fun _ => rfl) (fx' := fun b => fv1 b + f0 b) fun _ => rfl).freeze r1
          have q3 := q1.shift (a1.trans a3)
          cases h' : e1.ownI cs i with
          | none => rw [h'] at q3; exact q3.elim
          | some z' =>
            obtain ⟨c', fn', xs'⟩ := z'
            rw [h'] at q3
            dsimp only at q3
            by_cases hc : c' = c
            · rw [if_pos hc] at q3
              subst hc
              cases hz : g d (frz y) with
              | none => rw [hz] at q3; exact q3.elim
              | some z =>
                rw [hz] at q3
                have r0' : Rp C.toGc Hs3 H1 u d f0 := (ru.f0 hsc).mono (a1.trans a3).sh fun b hb => absurd rfl hb
                refine hs ok3.sm r0' r3 hz fun w Hs5 H5 fw n rw' => ?_
                have ok5 := (ok3.new n fun _ h => absurd rfl h).fps (fe' := fe1) (fx' := fw) (fun _ => rfl) fun b => by show fw b = 0 + fw b; omega
                obtain ⟨p', dx', vs', hv', hH', hl', h9', hc', fe', af, ok6⟩ := ok5.fld (f := f) h' rw'
                rw [hv] at hv'; cases hv'
                exact ⟨dx', _, hH', h9', q3 σ Hs5 _ fe' ((n.aft ok3).trans af) ok6⟩
            · rw [if_neg hc] at q3; exact q3.elim
        · rw [if_neg hsc] at q; exact q.elim
end
end Bx

set_option Elab.async false
set_option linter.all false
set_option maxRecDepth 100000
set_option maxHeartbeats 1000000
/-! Methods of own classes; instances made. -/
namespace Bx
open PySem L2
def tMethE (C0 : Addr) (m : Str) (sp : Sp) (E : L2.St → XK) (ta : TE) (t : TA) : TE := fun σ H Q => ta σ H fun x H1 => ∃ a dx fs, x = V.ref a ∧ H1 a = some (.ins C0 dx fs) ∧ fs.lookup m = none ∧ t σ H1 fun vs H2 => sp (x :: vs) H2 Q (E σ)
section
variable {X : Cx} {CX : CXT} {k : Nat} {f C0 : Addr} {fd : FuncData} {ps : List Str} {sp : Sp} {E : L2.St → XK} {x m : Str} {p pos apos : Pos} {e o : Expr} {es : List Expr} {ta : TE} {t : TA}
/-- how a method call is read: the object, then the function found in its class, then the arguments -/
abbrev MethRead (X : Cx) (o : Expr) (m : Str) (args : List Expr) (apos pos : Pos) (pl : Sem Bool) : Prop :=
  eval (.Call (.Attribute o m apos) args [] pos) X.env = (eval o X.env >>= fun ov => standAt apos.atName >>= fun _ => holding [ov] (getMethod ov m pl) >>= fun fx => callWith pos fx.1 fx.2 (backTo pos (starEach args X.env)) (backToKw pos (keywordEach [] X.env)))
/-- the object's part: what is left is the call of f with the object first -/
theorem meth_of {args : List Expr} {pl : Sem Bool} (ho : PE X o ta) (c : Cls X.K C0) (hm : Meth X.K C0 m f) (rd : MethRead X o m args apos pos pl)
    (rest : ∀ (a : Addr) (pins : List (Addr × Obj)) (s : Shared) (σ : L2.St) (H : Hp) (Q : VK), Inv X pins σ H s → t σ H (fun vs H2 => sp (.ref a :: vs) H2 Q (E σ)) →
      wpAny (model X.prog X.w) X.A (callWith pos (.ref f) [.ref a] (backTo pos (starEach args X.env)) (backToKw pos (keywordEach [] X.env))) (EP X pins σ Q) X.xe s) :
    PE X (.Call (.Attribute o m apos) args [] pos) (tMethE C0 m sp E ta t) := by
  constructor
  intro pins s σ H Q I wish
  apply PySem.W.methodCall_KW (pl := pl) _ rd
  apply thn (ho.run pins s σ H _ I wish)
  rintro _ s1 ⟨_, H1, I1, rv, a, dx, fs, rfl, at_, no, more⟩
  cases rv
  exact getmeth_ok I1 at_ c hm no (rest a pins s1 σ H1 Q I1 more)
theorem pe_methE {pl : Sem Bool} (ho : PE X o ta) (c : Cls X.K C0) (hm : Meth X.K C0 m f) (F : FnOk X.prog X.w X.K X.mg X.base CX k f fd ps sp) (hr : Room k X.A) (hb : Binds X.K fd ps []) (hx : ∀ σ, PassesAt CX X σ (E σ)) (ha : PA X (e :: es) t)
    (hst : starEach (e :: es) X.env = (false, eval e X.env) :: starEach es X.env) (hpl : (backTo pos (starEach es X.env)).any (·.1) = false) (rd : MethRead X o m (e :: es) apos pos pl) : PE X (.Call (.Attribute o m apos) (e :: es) [] pos) (tMethE C0 m sp E ta t) :=
  meth_of ho c hm rd fun a pins s σ H Q I wish => PySem.W.callWith_K (h₀ := X.base) I.ok.mod.kin hm.kp
    (thn (ha.run pos pins s σ H _ I wish) fun us s2 ⟨vs, H2, I2, rs, done⟩ => ⟨I2.kIn, run_fnS (us := .ref a :: us) (vs := .ref a :: vs) F hr hb (hx σ) I2 (.cons rfl rs) done⟩) hst hpl
theorem pe_methE0 {pl : Sem Bool} (ho : PE X o ta) (c : Cls X.K C0) (hm : Meth X.K C0 m f) (F : FnOk X.prog X.w X.K X.mg X.base CX k f fd ps sp) (hr : Room k X.A) (hb : Binds X.K fd ps []) (hx : ∀ σ, PassesAt CX X σ (E σ)) (rd : MethRead X o m [] apos pos pl) :
    PE X (.Call (.Attribute o m apos) [] [] pos) (tMethE C0 m sp E ta tNil) :=
  meth_of ho c hm rd fun a pins s σ H Q I wish => PySem.W.callWith_K0 I.kIn hm.kp (run_fnS (us := [.ref a]) (vs := [.ref a]) F hr hb (hx σ) I (.cons rfl .nil) wish)
end
/-- x.m(..), x a slot's name, an instance of c0; the instance is handed on to be changed -/
def eMeth (c0 m : Str) (n i : Nat) (F : List D → CR) (as : FA) : FE := fun e => match e.sl[i]? with
  | some (some (.nd (.ins c fn) _ _)) => if c = c0 ∧ kpos fn m = none then eCall n F (aIo i as) e else .bad
  | _ => .bad
section
variable {X : Cx} {C : Cc} {W : WX} {pos : Pos} {a o : Expr} {es : List Expr} {As : FA} {i : Nat}
theorem io_read {σ : L2.St} {H : Hp} {R : List V → Hp → Prop} {e : En} {Hs : Hp} {fe : Fp} {P : Addr → Prop} {v : V} (ok : Ok C Hs H σ e fe f0 P) (hv : σ[i]? = some (some v)) (q : EndA C W (aIo i As e) Hs H P σ R) :
    canA C W As σ H fun vs H1 => R (v :: vs) H1 := by
  unfold aIo at q
  cases h1 : e.sl[i]? with
  | none => rw [h1] at q; exact q.elim
  | some o =>
    cases o with
    | none => rw [h1] at q; exact q.elim
    | some d =>
      rw [h1] at q
      refine firstA ok (EndA.bind q) fun d2 e2 v2 Hs2 H2 fe2 fv2 a2 ok2 r2 q2 => ?_
      exact q2 _ Hs2 H2 fe2 fv2 a2 ok2 (.io hv r2)
theorem meth_read {F : List D → CR} {n : Nat} {c0 m : Str} {σ : L2.St} {H : Hp} {Q : VK} (h : canE C W (eMeth c0 m n i F As) σ H Q) : tMethE (C.ca c0) m (spD C.toGc n F) (WE W) (tVar i) (canA C W As) σ H Q := by
  obtain ⟨e, Hs, fe, P, ok, q⟩ := h
  unfold eMeth at q
  split at q
  · rename_i c fn o xs h1
    split at q
    · rename_i hc
      obtain ⟨rfl, hm⟩ := hc
      obtain ⟨v, f1, f2, e3, r1, e4, ok4, put⟩ := ok.slot h1
      refine ⟨v, e3, ?_⟩
      obtain ⟨p, vs, g, rfl, rs, le, at_⟩ := r1.nd ok.sm
      obtain ⟨hfl, dx, hH⟩ := at_.ins ok.sm
      refine ⟨p, dx, _, rfl, hH, by rw [lookup_kpos hfl, hm]; rfl, ?_⟩
      have h2 := call_read (C := C) (W := W) (F := F) (n := n) (As := aIo i As) (σ := σ) (H := H) (Q := Q) ⟨e, Hs, fe, P, ok, q⟩
      obtain ⟨e', Hs', fe', P', ok', q'⟩ := h2
      exact io_read ok' e3 q'
    · exact q.elim
  · exact q.elim
theorem be_meth {k n : Nat} {f : Addr} {fd : FuncData} {ps : List Str} {Fn : List D → CR} {c0 m : Str} {Ca : Addr} {apos : Pos} {pl : Sem Bool} (hca : C.ca c0 = Ca) (c : Cls X.K Ca) (hm : Meth X.K Ca m f) (F : FnOk X.prog X.w X.K X.mg X.base (L2.CX X.prog X.w) k f fd ps (spD C.toGc n Fn)) (hr : Room k X.A)
    (hb : Binds X.K fd ps []) (tk : Takes X W) (ho : PE X o (tVar i)) (ha : BA X C W (a :: es) As) (hst : starEach (a :: es) X.env = (false, eval a X.env) :: starEach es X.env) (hpl : (backTo pos (starEach es X.env)).any (·.1) = false)
    (ht : MethRead X o m (a :: es) apos pos pl) :
    BE X C W (.Call (.Attribute o m apos) (a :: es) [] pos) (eMeth c0 m n i Fn As) :=
  (pe_methE ho c hm F hr hb (E := WE W) (fun σ => passAt tk σ) ha hst hpl ht).imp fun σ H Q h => by rw [← hca]; exact meth_read h
theorem be_meth0 {k n : Nat} {f : Addr} {fd : FuncData} {ps : List Str} {Fn : List D → CR} {c0 m : Str} {Ca : Addr} {apos : Pos} {pl : Sem Bool} (hca : C.ca c0 = Ca) (c : Cls X.K Ca) (hm : Meth X.K Ca m f) (F : FnOk X.prog X.w X.K X.mg X.base (L2.CX X.prog X.w) k f fd ps (spD C.toGc n Fn)) (hr : Room k X.A)
    (hb : Binds X.K fd ps []) (tk : Takes X W) (ho : PE X o (tVar i))
    (ht : MethRead X o m [] apos pos pl) :
    BE X C W (.Call (.Attribute o m apos) [] [] pos) (eMeth c0 m n i Fn aNil) :=
  (pe_methE0 ho c hm F hr hb (E := WE W) (fun σ => passAt tk σ) ht).imp fun σ H Q h => by
    have h2 := meth_read h
    obtain ⟨v, hv, p, dx, fs, rfl, hH, hl, e, Hs, fe, P, ok, q⟩ := h2
    rw [← hca]
    exact ⟨_, hv, p, dx, fs, rfl, hH, hl, q [] Hs H fe f0 (Aft.refl _ _ _) ok (.nil fun _ => rfl)⟩
end
end Bx

set_option Elab.async false
set_option linter.all false
set_option maxRecDepth 100000
set_option maxHeartbeats 1000000
/-! Instances of own classes made. -/
namespace Bx
open PySem L2
def tMakeE (C0 : Addr) (sp : Sp) (E : L2.St → XK) (t : TA) : TE := fun σ H Q => t σ H fun vs H1 => ∀ x dx, H1 x = none → H1 dx = none → dx ≠ x →
  sp (.ref x :: vs) (upd (upd H1 dx (.own x)) x (.ins C0 dx [])) (fun v H2 => v = .non ∧ Q (.ref x) H2) (E σ)
section
variable {X : Cx} {CX : CXT} {k : Nat} {f C0 : Addr} {fd : FuncData} {ps : List Str} {sp : Sp} {E : L2.St → XK} {x m : Str} {p pos apos : Pos} {e o : Expr} {es : List Expr} {ta : TE} {t : TA}
/-- an instance is made and its __init__ is run -/
theorem run_makeE {pins : List (Addr × Obj)} {σ : L2.St} {H : Hp} {s : Shared} {Q : VK} {us : List Value} {vs : List V} {E : XK} (M : Mk X.K C0 f) (F : FnOk X.prog X.w X.K X.mg X.base CX k f fd ps sp) (room : Room (k + 1) X.A) (bd : Binds X.K fd ps []) (hx : PassesAt CX X σ E) (I : Inv X pins σ H s) (rs : Vals vs us)
    (wish : ∀ x dx, H x = none → H dx = none → dx ≠ x → sp (.ref x :: vs) (upd (upd H dx (.own x)) x (.ins C0 dx [])) (fun v H2 => v = .non ∧ Q (.ref x) H2) E) : wpAny (model X.prog X.w) X.A (call (.ref C0) us) (EP X pins σ Q) X.xe s := by
  obtain ⟨n, en⟩ : ∃ n, n = s.heap.objs.size := ⟨_, rfl⟩
  have born := Inv.made (C := C0) I
  have args : Vals (.ref (n + 1) :: vs) (.ref (n + 1) :: us) := .cons rfl rs
  have init := wish (n + 1) n (I.hok.fresh (en ▸ Nat.le_succ _)) (I.hok.fresh (en ▸ Nat.le_refl _)) (Nat.ne_of_lt (Nat.lt_succ_self n))
  have many : (.ref (n + 1) :: us).length = ps.length := args.length.symm.trans (F.len _ _ _ _ init)
  subst en
  have bound := bd _ (.ref (s.heap.objs.size + 1) :: us) born.kIn (by rw [List.append_nil]; exact many)
  rw [List.append_nil] at bound
  apply wpAny_call
  apply make_map (f := f) I.kIn M.makes M.init (beq_iff_eq.mp M.fn)
  apply codeAny_mono (F.run _ X.stack _ _ _ _ _ _ E (room.make C0 us []) (born.env0.make C0 us []) bound args init)
  rintro ((e | fl)) s' end_
  · exact hx pins _ _ e s' born end_
  cases fl <;> first | exact False.elim end_ | skip
  obtain ⟨_, H', I', rv, rfl, fin⟩ := born.after end_
  exact ⟨rv, .ref (s.heap.objs.size + 1), H', I', rfl, fin⟩
theorem pe_makeE (M : Mk X.K C0 f) (F : FnOk X.prog X.w X.K X.mg X.base CX k f fd ps sp) (hr : Room (k + 1) X.A) (hg : Gl X x) (hm : X.mg x = some (.ref C0)) (hb : Binds X.K fd ps []) (hx : ∀ σ, PassesAt CX X σ (E σ)) (ha : PA X (e :: es) t) (hdb : (x == ("__debug__" : Str)) = false)
    (he : starEach (e :: es) X.env = (false, eval e X.env) :: starEach es X.env) (hpl : (backTo pos (starEach es X.env)).any (·.1) = false) : PE X (.Call (.Name x p) (e :: es) [] pos) (tMakeE C0 sp E t) :=
  ⟨fun pins s σ H Q I wish => wpAny_Call_Name_kw (ld_glob I hg hm (PySem.W.callWith_K (h₀ := X.base) I.ok.mod.kin M.kp (thn (ha.run pos pins s σ H _ I wish) fun _ _ ⟨_, _, I1, rs, more⟩ => ⟨I1.kIn, run_makeE M F hr hb (hx σ) I1 rs more⟩) he hpl) hdb)⟩
theorem pe_makeE0 (M : Mk X.K C0 f) (F : FnOk X.prog X.w X.K X.mg X.base CX k f fd ps sp) (hr : Room (k + 1) X.A) (hg : Gl X x) (hm : X.mg x = some (.ref C0)) (hb : Binds X.K fd ps []) (hx : ∀ σ, PassesAt CX X σ (E σ)) (hdb : (x == ("__debug__" : Str)) = false) : PE X (.Call (.Name x p) [] [] pos) (tMakeE C0 sp E tNil) :=
  ⟨fun _ _ σ _ _ I wish => wpAny_Call_Name_kw (ld_glob I hg hm (PySem.W.callWith_K0 I.kIn M.kp (run_makeE (us := []) M F hr hb (hx σ) I .nil wish)) hdb)⟩
end
/-- C(..) -/
def eNew (c0 : Str) (n : Nat) (F : List D → CR) (as : FA) : FE := fun e => (as e).bind fun as e1 => match takeA e1 as with
  | some (ds, e2) => if ds.length = n then (match F (.nd (.ins c0 []) true [] :: ds) with
    | .ok .non (some d :: os) => (match putA as os e2 with
      | some e3 => .ok d e3
      | none => .bad)
    | .exc x (_ :: os) => (match putA as os e2 with
      | some e3 => .exc x e3
      | none => .bad)
    | _ => .bad) else .bad
  | none => .bad
section
variable {X : Cx} {C : Cc} {W : WX} {pos : Pos} {a : Expr} {es : List Expr} {As : FA}
theorem New.junk {Hs H : Hp} {p : Addr} {o : HO} (s : Sm Hs H) (hp : H p = none) : New Hs H Hs (upd H p o) f0 := by
  refine ⟨Same.refl _, fun b hb => ⟨upd_ne fun z => hb (z ▸ hp), rfl⟩, fun b hb => ?_, fun a u ha => ?_, fun b => Nat.zero_le _, fun b hb => absurd rfl hb⟩
  · by_cases z : b = p
    · rw [z]; exact hp
    · rw [upd_ne z] at hb; exact hb
  · have z : a ≠ p := fun z => by
      have := s.live (z ▸ hp)
      rw [ha] at this; cases this
    rw [upd_ne z]; exact s a u ha
theorem make_read {F : List D → CR} {n : Nat} {c0 : Str} {σ : L2.St} {H : Hp} {Q : VK} (h : canE C W (eNew c0 n F As) σ H Q) : tMakeE (C.ca c0) (spD C.toGc (n + 1) F) (WE W) (canA C W As) σ H Q := by
  obtain ⟨e, Hs, fe, P, ok, q⟩ := h
  refine firstA ok q.bind fun as e1 vs Hs1 H1 fe1 fv1 a1 ok1 r1 q1 x dx hx hdx hne => ?_
  have q2 := q1.shift a1
  cases ht : takeA e1 as with
  | none => rw [ht] at q2; exact q2.elim
  | some de =>
    obtain ⟨ds, e2⟩ := de
    rw [ht] at q2
    dsimp only at q2
    by_cases hn : ds.length = n
    rotate_left
    · rw [if_neg hn] at q2; exact q2.elim
    rw [if_pos hn] at q2
    have n1 := New.junk (o := .own x) ok1.sm hdx
    have ok1a := (ok1.new n1 fun b hb => (r1.live b hb).1).fps (fe' := fe1) (fx' := fv1) (fun _ => rfl) fun b => by show fv1 b = fv1 b + 0; omega
    have hx2 : (upd H1 dx (.own x)) x = none := by rw [upd_ne fun z => hne z.symm]; exact hx
    have n2 := New.obj (o := .ins (C.ca c0) dx []) ok1a.sm hx2
    have r1a := r1.mono n1.sh fun b hb => ⟨(n1.keep b (r1.live b hb).1).1, (r1.live b hb).2⟩
    have ok1b := (ok1a.new n2 fun b hb => (r1a.live b hb).1).fps (fe' := fe1) (fx' := fun b => fv1 b + if b = x then 1 else 0) (fun _ => rfl) fun b => rfl
    have r1b := r1a.mono n2.sh fun b hb => ⟨(n2.keep b (r1a.live b hb).1).1, (r1a.live b hb).2⟩
    have a1b := (n1.aft ok1).trans (n2.aft ok1a)
    have q3 := q2.shift a1b
    have nHs : Hs1 x = none := (n2.own x (by rw [if_pos rfl]; omega)).2
    have hHx : (upd (upd H1 dx (.own x)) x (.ins (C.ca c0) dx [])) x = some (.ins (C.ca c0) dx []) := upd_same
    clear n1 n2 ok1a r1a a1b q2
    generalize upd (upd H1 dx (.own x)) x (.ins (C.ca c0) dx []) = H2 at hHx ok1b r1b q3 ⊢
    obtain ⟨fa, fe2, rd, s2, ef, ex2⟩ := r1b.take ok1b.sl ht
    have one := ok1b.wf.one
    have one' : ∀ b, fe1 b + (fv1 b + if b = x then 1 else 0) ≤ 1 := one
    refine ⟨by rw [List.length_cons, rd.len, hn], .nd (.ins c0 []) true [] :: ds, Hs1, fun b => fa b + if b = x then 1 else 0, fun b => P b ∨ fe2 b ≠ 0, ⟨ok1b.wf.sm, fun b => by have := one' b; have := ef b; show fa b + (if b = x then 1 else 0) ≤ 1; omega, fun b hb => ok1b.wf.own b (by have := ef b; show fe1 b + (fv1 b + if b = x then 1 else 0) ≠ 0; have hb' : fa b + (if b = x then 1 else 0) ≠ 0 := hb; omega), fun b hb => by
      show fa b + (if b = x then 1 else 0) = 0
      rcases hb with hb | hb
      · have h3 : fe1 b + (fv1 b + if b = x then 1 else 0) = 0 := ok1b.wf.apart b hb
        have := ef b; omega
      · have := one' b; have := ef b; omega, fun b hb => by
      rcases hb with hb | hb
      · exact ok1b.wf.live b hb
      · exact (s2.live b hb).1⟩, .cons (f := fun b => if b = x then 1 else 0) (g := fa) (.own (f := f0) ⟨rfl, dx, hHx⟩ rfl nHs (.nil fun _ => rfl) fun b => (Nat.zero_add _).symm) rd fun b => Nat.add_comm _ _, ?_⟩
    have back : ∀ {Hs' H' : Hp} {fo fv : Fp} {os : List (Option D)} {e3 : En}, Aft Hs1 H2 Hs' H' (fun b => P b ∨ fe2 b ≠ 0) → Wf Hs' H' (fun b => fo b + fv b) (fun b => P b ∨ fe2 b ≠ 0) → Sls C.toGc Hs' H' (vs.map some) os fo → putA as os e2 = some e3 →
        ∃ fe3, Ok C Hs' H' σ e3 fe3 fv P := by
      intro Hs' H' fo fv os e3 af wf so hp
      have s3 := s2.mono (Hs' := Hs') (H' := H') af.sh fun b hb => af.keep b (.inr hb) (ok1b.wf.own b (by have := ef b; show fe1 b + (fv1 b + if b = x then 1 else 0) ≠ 0; omega))
      obtain ⟨fe3, s4, le, ex3⟩ := r1b.put so s3 hp
      refine ⟨fe3, ⟨wf.sm, fun b => ?_, fun b hb => ?_, fun b hb => ?_, fun b hb => wf.live b (.inl hb)⟩, s4, ok1.pn, by rw [ex3, ex2]; exact ok1b.ex.mono af.sh⟩
      · have h1 := le b; have h2 := wf.one b; have h3 := one' b; have h4 := ef b
        by_cases z : fe2 b = 0
        · omega
        · have := wf.apart b (.inr z); omega
      · have h1 := le b
        by_cases z : fe2 b = 0
        · exact wf.own b (by omega)
        · exact (af.keep b (.inr z) (ok1b.wf.own b (by have := ef b; show fe1 b + (fv1 b + if b = x then 1 else 0) ≠ 0; omega))).2
      · have h1 := le b; have h2 := wf.apart b (.inl hb); have h4 := ef b
        have h3 : fe1 b + (fv1 b + if b = x then 1 else 0) = 0 := ok1b.wf.apart b hb
        omega
    cases hF : F (.nd (.ins c0 []) true [] :: ds) with
    | bad => rw [hF] at q3; exact q3
    | ok d os =>
      rw [hF] at q3
      intro v Hs' H' fv fo af wf rv so
      cases d with
      | non =>
        refine ⟨rv.toN, ?_⟩
        cases so with
        | no so => exact q3.elim
        | @yes _ d f2 _ os' g _ r2 so q4 =>
          dsimp only at q3
          cases hp : putA as os' e2 with
          | none => rw [hp] at q3; exact q3.elim
          | some e3 =>
            rw [hp] at q3
            obtain ⟨fe3, ok3⟩ := back (fo := g) (fv := f2) af (wf.less fun b => by have := q4 b; show g b + f2 b ≤ fo b + fv b; omega) so hp
            exact q3 _ Hs' H' fe3 f2 (af.weak fun b hb => .inl hb) ok3 r2
      | _ => exact q3.elim
    | exc x os =>
      rw [hF] at q3
      intro dd Hs' H' fo af wf so ex
      have key : ∀ os' (g : Fp), (∀ b, g b ≤ fo b) → Sls C.toGc Hs' H' (vs.map some) os' g → EndE C W (match putA as os' e2 with
          | some e3 => .exc x e3
          | none => .bad) Hs1 H2 P σ Q → WE W σ (.ref (C.ca x.c)) (some dd) H' := by
        intro os' g le so q5
        cases hp : putA as os' e2 with
        | none => rw [hp] at q5; exact q5.elim
        | some e3 =>
          rw [hp] at q5
          obtain ⟨fe3, ok3⟩ := back (fo := g) (fv := f0) af (wf.less fun b => by have := le b; show g b + 0 ≤ fo b; omega) so hp
          exact q5 dd Hs' H' fe3 (af.weak fun b hb => .inl hb) ok3 ex
      cases so with
      | no so => exact key _ _ (fun b => Nat.le_refl _) so q3
      | yes r2 so q4 => exact key _ _ (fun b => by have := q4 b; omega) so q3
theorem be_make {k n : Nat} {f : Addr} {fd : FuncData} {ps : List Str} {Fn : List D → CR} {c0 x : Str} {Ca : Addr} {p : Pos} (hca : C.ca c0 = Ca) (M : Mk X.K Ca f) (F : FnOk X.prog X.w X.K X.mg X.base (L2.CX X.prog X.w) k f fd ps (spD C.toGc (n + 1) Fn)) (hr : Room (k + 1) X.A) (hg : Gl X x) (hm : X.mg x = some (.ref Ca))
    (hb : Binds X.K fd ps []) (tk : Takes X W) (ha : BA X C W (a :: es) As) (hdb : (x == ("__debug__" : Str)) = false) (he : starEach (a :: es) X.env = (false, eval a X.env) :: starEach es X.env) (hpl : (backTo pos (starEach es X.env)).any (·.1) = false) :
    BE X C W (.Call (.Name x p) (a :: es) [] pos) (eNew c0 n Fn As) :=
  (pe_makeE M F hr hg hm hb (E := WE W) (fun σ => passAt tk σ) ha hdb he hpl).imp fun σ H Q h => by rw [← hca]; exact make_read h
theorem be_make0 {k : Nat} {f : Addr} {fd : FuncData} {ps : List Str} {Fn : List D → CR} {c0 x : Str} {Ca : Addr} {p : Pos} (hca : C.ca c0 = Ca) (M : Mk X.K Ca f) (F : FnOk X.prog X.w X.K X.mg X.base (L2.CX X.prog X.w) k f fd ps (spD C.toGc 1 Fn)) (hr : Room (k + 1) X.A) (hg : Gl X x) (hm : X.mg x = some (.ref Ca))
    (hb : Binds X.K fd ps []) (tk : Takes X W) (hdb : (x == ("__debug__" : Str)) = false) :
    BE X C W (.Call (.Name x p) [] [] pos) (eNew c0 0 Fn aNil) :=
  (pe_makeE0 M F hr hg hm hb (E := WE W) (fun σ => passAt tk σ) hdb).imp fun σ H Q h => by
    rw [← hca]
    have h2 := make_read (C := C) (W := W) (F := Fn) (n := 0) (As := aNil) h
    obtain ⟨e, Hs, fe, P, ok, q⟩ := h2
    exact q [] Hs H fe f0 (Aft.refl _ _ _) ok (.nil fun _ => rfl)
end
end Bx

set_option Elab.async false
set_option linter.all false
set_option maxRecDepth 100000
set_option maxHeartbeats 1000000
/-! Expressions that leave the environment as it is; places within it. -/
namespace Bx
open PySem L2
def D.isF : D → Bool
  | .nd _ o _ => !o
  | _ => true
section
variable {G : Gc} {Hs H Hs' H' : Hp}
theorem New.trans {Hs1 H1 : Hp} {g : Fp} (a : New Hs H Hs1 H1 f0) (b : New Hs1 H1 Hs' H' g) : New Hs H Hs' H' g :=
  ⟨a.sh.trans b.sh, fun c hc => by
    have h1 := a.keep c hc
    have h2 := b.keep c (by rw [h1.1]; exact hc)
    exact ⟨h2.1.trans h1.1, h2.2.trans h1.2⟩, fun c h => a.mono c (b.mono c h), b.sm, b.one, fun c hc => ⟨a.mono c (b.own c hc).1, (b.own c hc).2⟩⟩
theorem New.frz {f : Fp} {v : V} {d : D} (n : New Hs H Hs' H' f) (r : Rp G Hs' H' v d f) : ∃ Hs2, New Hs H Hs2 H' f0 ∧ Same Hs' Hs2 ∧ Rp G Hs2 H' v (frz d) f0 := by
  have s : Same Hs' (fun b => if f b ≠ 0 then H' b else Hs' b) := fun b u hb => by
    by_cases z : f b = 0
    · show (if f b ≠ 0 then H' b else Hs' b) = some u
      rw [if_neg (by omega)]; exact hb
    · have := (n.own b z).2
      rw [hb] at this; cases this
  refine ⟨fun b => if f b ≠ 0 then H' b else Hs' b, ⟨n.sh.trans s, fun b hb => ⟨(n.keep b hb).1, ?_⟩, n.mono, fun b u hb => ?_, fun b => Nat.zero_le _, fun b hb => absurd rfl hb⟩, s, r.frz s (fun _ => rfl) fun b hb => by
    show (if f b ≠ 0 then H' b else Hs' b) = H' b
    rw [if_pos hb]⟩
  · have z : f b = 0 := by
      by_cases z : f b = 0
      · exact z
      · exact absurd (n.own b z).1 hb
    show (if f b ≠ 0 then H' b else Hs' b) = Hs b
    rw [if_neg (by omega)]; exact (n.keep b hb).2
  · by_cases z : f b = 0
    · have hb' : (if f b ≠ 0 then H' b else Hs' b) = some u := hb
      rw [if_neg (by omega)] at hb'; exact n.sm b u hb'
    · have hb' : (if f b ≠ 0 then H' b else Hs' b) = some u := hb
      rw [if_pos z] at hb'; exact .inl hb'
theorem Rp.isF {v : V} {d : D} {f : Fp} (r : Rp G Hs H v d f) (h : ∀ b, f b = 0) : d.isF = true := by
  cases r with
  | @own a _ _ _ _ _ h1 w n r e => have := h a; rw [e, if_pos rfl] at this; omega
  | _ => rfl
theorem Rp.isF0 {v : V} {d : D} {f : Fp} (r : Rp G Hs H v d f) (h : d.isF = true) : ∀ b, f b = 0 := by
  cases r with
  | own h1 w n r e => cases h
  | non z => exact z
  | bl z => exact z
  | int z => exact z
  | str z => exact z
  | ty z => exact z
  | sh h r z => exact z
theorem Rp.keepN {v : V} {d : D} {f g : Fp} (r : Rp G Hs H v d f) (n : New Hs H Hs' H' g) : Rp G Hs' H' v d f := r.mono n.sh fun b hb => ⟨(n.keep b (r.live b hb).1).1, (n.keep b (r.live b hb).1).2.trans (r.live b hb).2⟩
/-- one of them, and the others, for later -/
theorem rps_lens : ∀ {vs : List V} {ds : List D} {f : Fp} {i : Nat} {d : D}, Rps G Hs H vs ds f → ds[i]? = some d →
    ∃ (v : V) (g1 g2 : Fp), vs[i]? = some v ∧ Rp G Hs H v d g1 ∧ (∀ b, f b = g1 b + g2 b) ∧
      ∀ {Hs' H' : Hp} {d' : D} {g : Fp}, Same Hs Hs' → (∀ b, g2 b ≠ 0 → H' b = H b ∧ Hs' b = none) → Rp G Hs' H' v d' g → Rps G Hs' H' vs (ds.set i d') (fun b => g b + g2 b)
  | _, _, _, i, _, .nil _, h => by simp at h
  | _, _, _, 0, _, .cons (f := f1) (g := g1) r rs e, h => by
    simp at h; subst h
    exact ⟨_, f1, g1, rfl, r, e, fun s k r' => .cons r' (rs.mono s k) fun b => rfl⟩
  | _, _, _, i + 1, _, .cons (f := f1) (g := g1) r rs e, h => by
    obtain ⟨v, a1, a2, h1, h2, h3, h4⟩ := rps_lens rs (i := i) (by simpa using h)
    refine ⟨v, a1, fun b => f1 b + a2 b, by simpa using h1, h2, fun b => by rw [e b, h3 b]; show _ = a1 b + (f1 b + a2 b); omega, fun {Hs' H' d' g} s k r' => ?_⟩
    exact .cons (r.mono s fun b hb => k b (by show f1 b + a2 b ≠ 0; omega)) (h4 s (fun b hb => k b (by show f1 b + a2 b ≠ 0; omega)) r') fun b => by show g b + (f1 b + a2 b) = f1 b + (g b + a2 b); omega
/-- a place: v stands there, with d; S puts another there -/
structure Loc (G : Gc) (Hs H : Hp) (σ : L2.St) (e : En) (fe : Fp) (v : V) (d : D) (S : D → En) (f : Fp) : Prop where
  rp : Rp G Hs H v d f
  put : ∃ fr : Fp, (∀ b, fe b = f b + fr b) ∧ (∀ d', (S d').ex = e.ex) ∧ (d.isF = false → ∀ {Hs' H' : Hp} {d' : D} {f' : Fp}, Same Hs Hs' → (∀ b, fr b ≠ 0 → H' b = H b ∧ Hs' b = none) → Rp G Hs' H' v d' f' → Sls G Hs' H' σ (S d').sl (fun b => f' b + fr b))
theorem sls_lens : ∀ {σ : L2.St} {e : List (Option D)} {f : Fp} {i : Nat} {d : D}, Sls G Hs H σ e f → e[i]? = some (some d) →
    ∃ (v : V) (f1 f2 : Fp), σ[i]? = some (some v) ∧ Rp G Hs H v d f1 ∧ (∀ b, f b = f1 b + f2 b) ∧
      ∀ {Hs' H' : Hp} {d' : D} {g : Fp}, Same Hs Hs' → (∀ b, f2 b ≠ 0 → H' b = H b ∧ Hs' b = none) → Rp G Hs' H' v d' g → Sls G Hs' H' σ (e.set i (some d')) (fun b => g b + f2 b)
  | _, _, _, i, _, .nil _, h => by simp at h
  | _, _, _, 0, _, .no r, h => by simp at h
  | _, _, _, i + 1, _, .no r, h => by
    obtain ⟨v, f1, f2, h1, h2, h3, h4⟩ := sls_lens r (i := i) (by simpa using h)
    exact ⟨v, f1, f2, by simpa using h1, h2, h3, fun s k r' => .no (h4 s k r')⟩
  | _, _, _, 0, _, .yes (f := f1) (g := g1) r rs q, h => by
    simp at h; subst h
    exact ⟨_, f1, g1, rfl, r, q, fun s k r' => .yes r' (rs.mono s k) fun b => rfl⟩
  | _, _, _, i + 1, _, .yes (f := f1) (g := g1) r rs q, h => by
    obtain ⟨v, a1, a2, h1, h2, h3, h4⟩ := sls_lens rs (i := i) (by simpa using h)
    refine ⟨v, a1, fun b => f1 b + a2 b, by simpa using h1, h2, fun b => by rw [q b, h3 b]; show _ = a1 b + (f1 b + a2 b); omega, fun {Hs' H' d' g} s k r' => ?_⟩
    exact .yes (r.mono s fun b hb => k b (by show f1 b + a2 b ≠ 0; omega)) (h4 s (fun b hb => k b (by show f1 b + a2 b ≠ 0; omega)) r') fun b => by show g b + (f1 b + a2 b) = f1 b + (g b + a2 b); omega
variable {σ : L2.St} {e : En} {fe f : Fp} {v : V} {d : D} {S : D → En}
theorem Loc.keepN {g : Fp} (l : Loc G Hs H σ e fe v d S f) (n : New Hs H Hs' H' g) (hs : Sls G Hs H σ e.sl fe) : Loc G Hs' H' σ e fe v d S f := by
  obtain ⟨fr, h1, h2, h3⟩ := l.put
  refine ⟨l.rp.keepN n, fr, h1, h2, fun hF {Hs2 H2 d' f'} s k r => h3 hF (n.sh.trans s) (fun b hb => ?_) r⟩
  have hk := k b hb
  have hl := (hs.live b (by rw [h1 b]; omega)).1
  exact ⟨hk.1.trans (n.keep b hl).1, hk.2⟩
/-- a child's place -/
theorem Loc.child {k : Kd} {o : Bool} {xs : List D} {j : Nat} {x : D} (sm : Sm Hs H) (l : Loc G Hs H σ e fe v (.nd k o xs) S f) (h : xs[j]? = some x) :
    ∃ a vs u f1, v = .ref a ∧ AtR G Hs H a k vs o ∧ (∃ g, Rps G Hs H vs xs g) ∧ vs[j]? = some u ∧ Loc G Hs H σ e fe u x (fun x' => S (.nd k o (xs.set j x'))) f1 := by
  obtain ⟨rp, fr, h1, h2, h3⟩ := l
  cases rp with
  | @sh a _ vs _ _ at_ rs z =>
    obtain ⟨u, g1, g2, hu, ru, eg, put⟩ := rps_lens rs h
    have zg : ∀ b, g1 b = 0 := fun b => by have := eg b; have := z b; omega
    refine ⟨a, vs, u, g1, rfl, .sh sm at_, ⟨_, rs⟩, hu, ⟨?_, fr, fun b => by rw [h1 b, zg b, z b], fun d' => h2 _, fun hF => ?_⟩⟩
    · exact (ru.mono (H' := H) (Same.refl _) fun b hb => absurd (zg b) hb)
    · rw [ru.isF zg] at hF; cases hF
  | @own a _ vs _ g _ at_ w n rs e1 =>
    obtain ⟨u, g1, g2, hu, ru, eg, put⟩ := rps_lens rs h
    refine ⟨a, vs, u, g1, rfl, .inl at_, ⟨_, rs⟩, hu, ⟨ru, fun b => g2 b + (if b = a then 1 else 0) + fr b, fun b => by rw [h1 b, e1 b, eg b]; show _ = g1 b + (g2 b + (if b = a then 1 else 0) + fr b); omega, fun d' => h2 _, fun hF {Hs' H' d' f'} s kp r => ?_⟩⟩
    have ka := kp a (by show g2 a + (if a = a then 1 else 0) + fr a ≠ 0; rw [if_pos rfl]; omega)
    have rn : Rp G Hs' H' (.ref a) (.nd k true (xs.set j d')) (fun b => (f' b + g2 b) + if b = a then 1 else 0) := .own (at_.eq ka.1) w ka.2 (put s (fun b hb => kp b (by show g2 b + (if b = a then 1 else 0) + fr b ≠ 0; omega)) r) fun b => rfl
    exact (h3 rfl s (fun b hb => kp b (by show g2 b + (if b = a then 1 else 0) + fr b ≠ 0; omega)) rn).fp fun b => by show f' b + (g2 b + (if b = a then 1 else 0) + fr b) = f' b + g2 b + (if b = a then 1 else 0) + fr b; omega
end
/-! ### judgements -/
abbrev FQ := En → Option D
abbrev FL := En → Option (D × (D → En))
def canQ (C : Cc) (F : FQ) : TE := fun σ H Q => ∃ e Hs fe P d, Ok C Hs H σ e fe f0 P ∧ F e = some d ∧ ∀ v Hs' H' fv, New Hs H Hs' H' fv → Rp C.toGc Hs' H' v d fv → Q v H'
def canL (C : Cc) (F : FL) : TE := fun σ H Q => ∃ e Hs fe P d S, Ok C Hs H σ e fe f0 P ∧ F e = some (d, S) ∧ ∀ v f Hs' H', New Hs H Hs' H' f0 → Loc C.toGc Hs' H' σ e fe v d S f → Q v H'
def canQT (C : Cc) (F : En → Option Bool) : TT := fun σ H Q => ∃ e Hs fe P k, Ok C Hs H σ e fe f0 P ∧ F e = some k ∧ ∀ Hs' H', New Hs H Hs' H' f0 → Q k H'
def BQ (X : Cx) (C : Cc) (e : Expr) (F : FQ) : Prop := PE X e (canQ C F)
def BL (X : Cx) (C : Cc) (e : Expr) (F : FL) : Prop := PE X e (canL C F)
def BQT (X : Cx) (C : Cc) (e : Expr) (F : En → Option Bool) : Prop := PT X e (canQT C F)
def qC (d : D) : FQ := fun _ => some d
def qN (i : Nat) : FQ := fun e => match e.sl[i]? with
  | some (some d) => if d.isF then some d else none
  | _ => none
def qL (p : FL) : FQ := fun e => (p e).bind fun (d, _) => if d.isF then some d else none
def qBin (g : D → D → Option D) (a b : FQ) : FQ := fun e => (a e).bind fun x => (b e).bind fun y => g (frz x) (frz y)
def qIf (c : En → Option Bool) (a b : FQ) : FQ := fun e => (c e).bind fun k => if k then a e else b e
def qTru (a : FQ) : En → Option Bool := fun e => (a e).bind truD
def qCall1 (g : List D → Option D) (p : FL) : FQ := fun e => (p e).bind fun (d, _) => g [d]
def lN (i : Nat) : FL := fun e => match e.sl[i]? with
  | some (some d) => some (d, fun d' => e.put i d')
  | _ => none
def lAt (cs : List Str) (p : FL) (f : Str) : FL := fun e => (p e).bind fun (d, S) => match d with
  | .nd (.ins c fn) o xs => if cs.contains c then (kpos fn f).bind fun j => (xs[j]?).map fun x => (x, fun x' => S (.nd (.ins c fn) o (xs.set j x'))) else none
  | _ => none
def lIx (p : FL) (b : FQ) : FL := fun e => (p e).bind fun (d, S) => (b e).bind fun y => match d with
  | .nd k o xs => (cpos (.nd k o xs) (frz y)).bind fun j => (xs[j]?).map fun x => (x, fun x' => S (.nd k o (xs.set j x')))
  | _ => none
def eQ (q : FQ) : FE := fun e => .opt (q e) e
section
variable {X : Cx} {C : Cc} {W : WX} {pos p2 : Pos} {a b c o : Expr} {Fa Fb Fc : FQ} {Fl : FL} {Tc : En → Option Bool}
theorem Ok.newN {Hs H Hs' H' : Hp} {σ : L2.St} {e : En} {fe fv : Fp} {P : Addr → Prop} (ok : Ok C Hs H σ e fe f0 P) (n : New Hs H Hs' H' fv) : Ok C Hs' H' σ e fe fv P := (ok.new n fun _ h => absurd rfl h).fps (fun _ => rfl) fun b => (Nat.zero_add _).symm
theorem be_q (h : BQ X C a Fa) : BE X C W a (eQ Fa) := h.imp fun σ H Q ⟨e, Hs, fe, P, ok, q⟩ => by
  unfold eQ at q
  cases hd : Fa e with
  | none => rw [hd] at q; exact q.elim
  | some d =>
    rw [hd] at q
    exact ⟨e, Hs, fe, P, d, ok, hd, fun v Hs' H' fv n r => q v Hs' H' fe fv (n.aft ok) (ok.newN n) r⟩
theorem bq_c {d : D} {v : V} (h : PE X a (tC v)) (r : ∀ Hs H, Rp C.toGc Hs H v d f0) : BQ X C a (qC d) := h.imp fun σ H Q ⟨e, Hs, fe, P, d', ok, hd, q⟩ => by
  cases hd; exact q v Hs H f0 (New.refl ok.sm) (r Hs H)
theorem bq_int {i j} : BQ X C (.Constant (.int i) j pos) (qC (.int i)) := bq_c pe_int fun _ _ => .int fun _ => rfl
theorem bq_bl {k j} : BQ X C (.Constant (.bool k) j pos) (qC (.bl k)) := bq_c pe_bl fun _ _ => .bl fun _ => rfl
theorem bq_non {j} : BQ X C (.Constant .none j pos) (qC .non) := bq_c pe_non fun _ _ => .non fun _ => rfl
theorem bq_str {x j} : BQ X C (.Constant (.str x) j pos) (qC (.str x)) := bq_c pe_str fun _ _ => .str fun _ => rfl
theorem bq_gint {x : Str} {i : Int} (hg : Gl X x) (hd : (x == ("__debug__" : Str)) = false) (hm : ∃ t, X.mg x = some (.int i t)) : BQ X C (.Name x pos) (qC (.int i)) := by
  obtain ⟨t, hm⟩ := hm
  exact bq_c (pe_glob (v := .int i) hg hm ⟨t, rfl⟩ hd) fun _ _ => .int fun _ => rfl
theorem bl_name {i : Nat} (h : PE X a (tVar i)) : BL X C a (lN i) := h.imp fun σ H Q ⟨e, Hs, fe, P, d, S, ok, hd, q⟩ => by
  unfold lN at hd
  split at hd
  · rename_i d' h1
    cases hd
    obtain ⟨v, f1, f2, h2, h3, h4, h5⟩ := sls_lens ok.sl h1
    exact ⟨v, h2, q v f1 Hs H (New.refl ok.sm) ⟨h3, f2, h4, fun _ => rfl, fun _ => h5⟩⟩
  · cases hd
theorem bq_l (h : BL X C a Fl) : BQ X C a (qL Fl) := h.imp fun σ H Q ⟨e, Hs, fe, P, d, ok, hd, q⟩ => by
  unfold qL at hd
  obtain ⟨⟨d', S⟩, h1, h2⟩ := Option.bind_eq_some_iff.mp hd
  dsimp only at h2
  split at h2
  · rename_i hF
    cases h2
    exact ⟨e, Hs, fe, P, d, S, ok, h1, fun v f Hs' H' n l => q v Hs' H' f0 n (l.rp.fp fun b => (l.rp.isF0 hF b).symm)⟩
  · cases h2
theorem bq_name {i : Nat} (h : PE X a (tVar i)) : BQ X C a (qL (lN i)) := bq_l (bl_name h)
/-- a second one, behind new things -/
theorem canQ.on {e : En} {Hs H Hs' H' : Hp} {σ : L2.St} {fe : Bx.Fp} {P : Addr → Prop} {d : D} {Q : VK} (ok : Ok C Hs H σ e fe f0 P) (n : New Hs H Hs' H' f0) (h : Fa e = some d) (q : ∀ v Hs2 H2 fv, New Hs' H' Hs2 H2 fv → Rp C.toGc Hs2 H2 v d fv → Q v H2) : canQ C Fa σ H' Q :=
  ⟨e, Hs', fe, P, d, ok.newN n, h, q⟩
theorem bq_op {r : R2} {g : D → D → Option D} {x : Expr} (hp : ∀ ta tb, PE X a ta → PE X b tb → PE X x (tOp r ta tb)) (hs : OpS C.toGc r g) (ha : BQ X C a Fa) (hb : BQ X C b Fb) : BQ X C x (qBin g Fa Fb) :=
  (hp _ _ ha hb).imp fun σ H Q ⟨e, Hs, fe, P, d, ok, hd, q⟩ => by
    unfold qBin at hd
    obtain ⟨x, h1, h2⟩ := Option.bind_eq_some_iff.mp hd
    obtain ⟨y, h3, h4⟩ := Option.bind_eq_some_iff.mp h2
    refine ⟨e, Hs, fe, P, x, ok, h1, fun v Hs1 H1 f1 n1 r1 => ?_⟩
    obtain ⟨Hs2, n2, s2, r2⟩ := n1.frz r1
    refine canQ.on ok n2 h3 fun w Hs3 H3 f3 n3 r3 => ?_
    obtain ⟨Hs4, n4, s4, r4⟩ := n3.frz r3
    exact hs n4.sm (r2.keepN n4) r4 h4 fun u Hs5 H5 f5 n5 r5 => q u Hs5 H5 f5 (n2.trans (n4.trans n5)) r5
theorem bq_bin {op : Operator} {r : R2} {g : D → D → Option D} (ho : OpR X (binaryOp op) r) (hs : OpS C.toGc r g) (ha : BQ X C a Fa) (hb : BQ X C b Fb) : BQ X C (.BinOp a op b pos) (qBin g Fa Fb) := bq_op (fun _ _ h1 h2 => pe_op ho h1 h2) hs ha hb
theorem bq_cmp {op : CmpOp} {r : R2} {g : D → D → Option D} (ho : OpR X (compareOp op) r) (hs : OpS C.toGc r g) (hm : behindInMarks op b = false) (ha : BQ X C a Fa) (hb : BQ X C b Fb) : BQ X C (.Compare a [op] [b] pos) (qBin g Fa Fb) := bq_op (fun _ _ h1 h2 => pe_cmpR ho h1 h2 hm) hs ha hb
theorem bqt_tru (hk : X.K = C.K) (h : BQ X C a Fa) (he : ∀ whole, isTrue a X.env whole = (do let v ← whole; standAt a.pos; holding [v] (truthy v))) : BQT X C a (qTru Fa) :=
  (pt_truth h he).imp fun σ H Q ⟨e, Hs, fe, P, k, ok, hd, q⟩ => by
    unfold qTru at hd
    obtain ⟨d, h1, h2⟩ := Option.bind_eq_some_iff.mp hd
    refine ⟨e, Hs, fe, P, d, ok, h1, fun v Hs1 H1 f1 n1 r1 => ?_⟩
    obtain ⟨Hs2, n2, _, _⟩ := n1.frz r1
    exact ⟨k, by rw [hk]; exact truS (G := C.toGc) n1.sm r1 h2, q Hs2 H1 n2⟩
theorem bq_if (hc : BQT X C c Tc) (ha : BQ X C a Fa) (hb : BQ X C b Fb) : BQ X C (.IfExp c a b pos) (qIf Tc Fa Fb) :=
  (pe_ifExp hc ha hb).imp fun σ H Q ⟨e, Hs, fe, P, d, ok, hd, q⟩ => by
    unfold qIf at hd
    obtain ⟨k, h1, h2⟩ := Option.bind_eq_some_iff.mp hd
    refine ⟨e, Hs, fe, P, k, ok, h1, fun Hs1 H1 n1 => ?_⟩
    cases k with
    | true => rw [if_pos rfl] at h2 ⊢; exact canQ.on ok n1 h2 fun v Hs2 H2 fv n r => q v Hs2 H2 fv (n1.trans n) r
    | false => rw [if_neg (by simp)] at h2 ⊢; exact canQ.on ok n1 h2 fun v Hs2 H2 fv n r => q v Hs2 H2 fv (n1.trans n) r
theorem bl_at {cs : List Str} {f : Str} (hk : X.K = C.K) (hC : Has C.K C.ca cs f) (ha : BL X C a Fl) (hb : attributeBase a f X.env (eval a X.env) = eval a X.env) : BL X C (.Attribute a f pos) (lAt cs Fl f) :=
  (pe_fld ha hb).imp fun σ H Q ⟨e, Hs, fe, P, d, S, ok, hd, q⟩ => by
    unfold lAt at hd
    obtain ⟨⟨d0, S0⟩, h1, h2⟩ := Option.bind_eq_some_iff.mp hd
    dsimp only at h2
    refine ⟨e, Hs, fe, P, d0, S0, ok, h1, fun v f1 Hs1 H1 n1 l1 => ?_⟩
    split at h2
    · rename_i c fn o xs
      split at h2
      · rename_i hc
        obtain ⟨j, hj, h3⟩ := Option.bind_eq_some_iff.mp h2
        obtain ⟨x, hx, h4⟩ := Option.map_eq_some_iff.mp h3
        cases h4
        obtain ⟨p, vs, u, g1, rfl, at_, ⟨_, hl⟩, hu, l2⟩ := l1.child n1.sm hx
        obtain ⟨hfl, dx, hH⟩ := at_.ins n1.sm
        obtain ⟨c1, c2⟩ := hC c hc
        exact ⟨p, _, dx, _, u, rfl, hH, by rw [hk]; exact c1, by rw [hk]; exact c2, by rw [lookup_kpos hfl, hj]; exact hu, q u g1 Hs1 H1 n1 l2⟩
      · cases h2
    · cases h2
theorem bl_ix (hu : X.A.units + 64 < cLine) (hk : XC X C.toGc) (ha : BL X C a Fl) (hb : BQ X C b Fb) (hs : PlainIx b) : BL X C (.Subscript a b pos) (lIx Fl Fb) :=
  (pe_ix (ix_A hu hk) ha hb hs).imp fun σ H Q ⟨e, Hs, fe, P, d, S, ok, hd, q⟩ => by
    unfold lIx at hd
    obtain ⟨⟨d0, S0⟩, h1, h2⟩ := Option.bind_eq_some_iff.mp hd
    obtain ⟨y, h3, h4⟩ := Option.bind_eq_some_iff.mp h2
    refine ⟨e, Hs, fe, P, d0, S0, ok, h1, fun v f1 Hs1 H1 n1 l1 => ?_⟩
    refine canQ.on ok n1 h3 fun w Hs3 H3 f3 n3 r3 => ?_
    obtain ⟨Hs4, n4, s4, r4⟩ := n3.frz r3
    split at h4
    · rename_i k o xs
      obtain ⟨j, hj, h5⟩ := Option.bind_eq_some_iff.mp h4
      obtain ⟨x, hx, h6⟩ := Option.map_eq_some_iff.mp h5
      cases h6
      obtain ⟨p, vs, u, g1, rfl, at_, ⟨_, hl⟩, hu', l2⟩ := (l1.keepN n4 (ok.newN n1).sl).child n4.sm hx
      exact ixCore (G := C.toGc) n4.sm at_ hl r4 hj u Q hu' (q u g1 Hs4 H3 (n1.trans n4) l2)
    · cases h4
end
end Bx

set_option Elab.async false
set_option linter.all false
set_option maxRecDepth 100000
set_option maxHeartbeats 1000000
/-! Places: looked at, cut, grown. -/
namespace Bx
open PySem L2
def flatZ : D → Bool
  | .nd k o xs => o && (k.ow && xs.all D.sc)
  | _ => true
section
variable {G : Gc} {Hs H Hs' H' : Hp}
theorem Rp.scT {v : V} {d : D} {f : Fp} {Hs2 H2 : Hp} (r : Rp G Hs H v d f) (h : d.sc = true) : Rp G Hs2 H2 v d f := by
  cases r with
  | non z => exact .non z
  | bl z => exact .bl z
  | int z => exact .int z
  | str z => exact .str z
  | ty z => exact .ty z
  | _ => cases h
theorem Rps.scT {Hs2 H2 : Hp} : ∀ {vs : List V} {ds : List D} {f : Fp}, Rps G Hs H vs ds f → ds.all D.sc = true → Rps G Hs2 H2 vs ds f
  | _, _, _, .nil z, _ => .nil z
  | _, _, _, .cons r rs e, h => by
    rw [List.all_cons, Bool.and_eq_true] at h
    exact .cons (r.scT h.1) (Rps.scT rs h.2) e
theorem Rp.flatT {v : V} {d : D} {f : Fp} {Hs2 : Hp} (r : Rp G Hs H v d f) (h : flatZ d = true) (k : ∀ b, f b ≠ 0 → Hs2 b = none) : Rp G Hs2 H v d f := by
  cases r with
  | non z => exact .non z
  | bl z => exact .bl z
  | int z => exact .int z
  | str z => exact .str z
  | ty z => exact .ty z
  | sh h1 r z => cases h
  | @own a _ _ _ _ _ h1 w n r e =>
    have h : (true && (Kd.ow _ && List.all _ D.sc)) = true := h
    rw [Bool.true_and, Bool.and_eq_true] at h
    exact .own h1 w (k a (by rw [e a, if_pos rfl]; omega)) (r.scT h.2) e
/-- what stands is frozen for a while -/
theorem tempF {v : V} {d z : D} {f : Fp} {Q : VK} {T : Prop} (s : Sm Hs H) (r : Rp G Hs H v d f) (hz : flatZ z = true)
    (hT : ∀ Hs2, Sm Hs2 H → Same Hs Hs2 → Rp G Hs2 H v (frz d) f0 → (∀ v' Hs' H' fv, New Hs2 H Hs' H' fv → Rp G Hs' H' v' z fv → Q v' H') → T) (q : ∀ v' Hs' H' fv, New Hs H Hs' H' fv → Rp G Hs' H' v' z fv → Q v' H') : T := by
  have lv := r.live
  have s2 : Same Hs (fun b => if f b ≠ 0 then H b else Hs b) := fun b u hb => by
    by_cases z : f b = 0
    · show (if f b ≠ 0 then H b else Hs b) = some u
      rw [if_neg (by omega)]; exact hb
    · have := (lv b z).2
      rw [hb] at this; cases this
  refine hT (fun b => if f b ≠ 0 then H b else Hs b) (fun b u hb => ?_) s2 (r.frz s2 (fun _ => rfl) fun b hb => if_pos hb) fun v' Hs' H' fv n r' => ?_
  · by_cases z : f b = 0
    · have hb' : (if f b ≠ 0 then H b else Hs b) = some u := hb
      rw [if_neg (by omega)] at hb'; exact s b u hb'
    · have hb' : (if f b ≠ 0 then H b else Hs b) = some u := hb
      rw [if_pos z] at hb'; exact .inl hb'
  · have key : ∀ b, f b = 0 → (fun b => if f b ≠ 0 then H b else Hs b) b = Hs b := fun b z => if_neg (by omega)
    refine q v' (fun b => if f b ≠ 0 then Hs b else Hs' b) H' fv ⟨fun b u hb => ?_, fun b hb => ⟨(n.keep b hb).1, ?_⟩, n.mono, fun b u hb => ?_, n.one, fun b hb => ⟨(n.own b hb).1, ?_⟩⟩ (r'.flatT hz fun b hb => ?_)
    · by_cases z : f b = 0
      · show (if f b ≠ 0 then Hs b else Hs' b) = some u
        rw [if_neg (by omega)]; exact n.sh b u ((key b z).trans hb)
      · have := (lv b z).2
        rw [hb] at this; cases this
    · show (if f b ≠ 0 then Hs b else Hs' b) = Hs b
      by_cases z : f b = 0
      · rw [if_neg (by omega)]; exact (n.keep b hb).2.trans (key b z)
      · rw [if_pos z]
    · have hb' : (if f b ≠ 0 then Hs b else Hs' b) = some u := hb
      by_cases z : f b = 0
      · rw [if_neg (by omega)] at hb'; exact n.sm b u hb'
      · rw [if_pos z, (lv b z).2] at hb'; cases hb'
    · show (if f b ≠ 0 then Hs b else Hs' b) = none
      by_cases z : f b = 0
      · rw [if_neg (by omega)]; exact (n.own b hb).2
      · rw [if_pos z]; exact (lv b z).2
    · show (if f b ≠ 0 then Hs b else Hs' b) = none
      by_cases z : f b = 0
      · rw [if_neg (by omega)]; exact (n.own b hb).2
      · rw [if_pos z]; exact (lv b z).2
end
section
variable {C : Cc} {Hs H : Hp} {σ : L2.St} {e : En} {fe fx : Fp} {P : Addr → Prop}
/-- a node at a place is written anew, a value at hand may go into it -/
theorem Ok.nodeL {S : D → En} {v : V} {k : Kd} {xs : List D} {f fd : Fp} (ok : Ok C Hs H σ e fe fd P) (l : Loc C.toGc Hs H σ e fe v (.nd k true xs) S f) :
    ∃ (a : Addr) (vs : List V) (g : Fp), v = .ref a ∧ At C.toGc H a k vs ∧ Rps C.toGc Hs H vs xs g ∧ vs.length = xs.length ∧ (∀ o, Rps C.toGc Hs (upd H a o) vs xs g) ∧
      (∀ o u d, Rp C.toGc Hs H u d fd → Rp C.toGc Hs (upd H a o) u d fd) ∧
      ∀ (o : HO) (k' : Kd) (vs' : List V) (xs' : List D) (fn : Fp), At C.toGc (upd H a o) a k' vs' → k'.ow = true → (∀ b, fn b ≤ g b + fd b) → Rps C.toGc Hs (upd H a o) vs' xs' fn →
        ∃ fe', Aft Hs H Hs (upd H a o) P ∧ Ok C Hs (upd H a o) σ (S (.nd k' true xs')) fe' f0 P := by
  obtain ⟨rp, fr, h1, h2, h3⟩ := l
  cases rp with
  | @own a _ vs _ g _ at_ hw nHs rs eg =>
    have one := ok.wf.one
    have up : ∀ (o : HO) b, b ≠ a → (upd H a o) b = H b := fun o b hb => upd_ne hb
    have fa : f a = g a + 1 := by rw [eg a, if_pos rfl]
    have g_a : g a = 0 := by have := one a; have := h1 a; omega
    have fd_a : fd a = 0 := by have := one a; have := h1 a; omega
    have fr_a : fr a = 0 := by have := one a; have := h1 a; omega
    have Pa : ∀ b, P b → b ≠ a := fun b hb z => by have := ok.wf.apart b hb; have := h1 b; rw [z] at *; omega
    refine ⟨a, vs, g, rfl, at_, rs, rs.len, fun o => rs.mono (Same.refl _) fun b hb => ⟨up o b fun z => hb (by rw [z]; exact g_a), (rs.live b hb).2⟩,
      fun o u d rd => rd.mono (Same.refl _) fun b hb => ⟨up o b fun z => hb (by rw [z]; exact fd_a), (rd.live b hb).2⟩, ?_⟩
    intro o k' vs' xs' fn at' w' le rs'
    have mono : ∀ b, (upd H a o) b = none → H b = none := fun b hb => by
      by_cases z : b = a
      · rw [z, upd_same] at hb; cases hb
      · rw [up o b z] at hb; exact hb
    have s2 := h3 rfl (Hs' := Hs) (H' := upd H a o) (d' := .nd k' true xs') (f' := fun b => fn b + if b = a then 1 else 0) (Same.refl _) (fun b hb => ⟨up o b fun z => hb (by rw [z]; exact fr_a), ok.wf.own b (by have := h1 b; omega)⟩) (.own at' w' nHs rs' fun b => rfl)
    refine ⟨fun b => (fn b + if b = a then 1 else 0) + fr b, ⟨Same.refl _, fun b hb hn => ⟨up o b (Pa b hb), hn⟩, mono, fun b od u hb => (up o b fun z => at_.nofrz hw od u (z ▸ hb)).trans hb⟩, ⟨⟨fun b u hb => ?_, fun b => ?_, fun b hb => ?_, fun b hb => ?_, fun b hb z => ok.wf.live b hb (mono b z)⟩, s2, ok.pn, by rw [h2]; exact ok.ex.mono (Same.refl _)⟩⟩
    · rw [up o b fun z => by rw [z, nHs] at hb; cases hb]; exact ok.wf.sm b u hb
    · have := one b; have := h1 b; have := eg b; have := le b
      show fn b + (if b = a then 1 else 0) + fr b + 0 ≤ 1
      omega
    · have hb' : fn b + (if b = a then 1 else 0) + fr b + 0 ≠ 0 := hb
      exact ok.wf.own b (by have := h1 b; have := eg b; have := le b; omega)
    · have := ok.wf.apart b hb; have := h1 b; have := eg b; have := le b
      show fn b + (if b = a then 1 else 0) + fr b + 0 = 0
      omega
end
def qP (a : Option FQ) : En → Option (Option Int) := fun e => match a with
  | none => some none
  | some a => match a e with
    | some (.int i) => some (some i)
    | _ => none
def canQP (C : Cc) (F : En → Option (Option Int)) : TO := fun σ H Q => ∃ e Hs fe P k, Ok C Hs H σ e fe f0 P ∧ F e = some k ∧ ∀ Hs' H', New Hs H Hs' H' f0 → Q k H'
def BQP (X : Cx) (C : Cc) (o : Option Expr) (F : En → Option (Option Int)) : Prop := PO X o (canQP C F)
/-- a slice of what stands at a place: flat -/
def qSl (p : FL) (lo hi : Option FQ) : FQ := fun e => (p e).bind fun (d, _) => (qP lo e).bind fun l => (qP hi e).bind fun h => (sliceD (frz d) l h).bind fun z => if flatZ z then some z else none
/-- place.append(x) -/
def eAppL (p : FL) (q : FQ) : FE := fun e => match p e with
  | some (.nd .lst true xs, S) => (match q e with
    | some d => if xs.length < lim then .ok .non (S (.nd .lst true (xs ++ [d]))) else .bad
    | none => .bad)
  | _ => .bad
section
variable {X : Cx} {C : Cc} {W : WX} {pos p2 apos : Pos} {a b c o : Expr} {Fa Fb Fc : FQ} {Fl : FL} {lo hi : Option Expr} {Ql Qh : Option FQ}
theorem bqp_none : BQP X C none (qP none) := po_none.imp fun σ H Q ⟨e, Hs, fe, P, k, ok, h, q⟩ => by
  cases h; exact q Hs H (New.refl ok.sm)
theorem bqp_some (ha : BQ X C a Fa) : BQP X C (some a) (qP (some Fa)) := (po_some ha).imp fun σ H Q ⟨e, Hs, fe, P, k, ok, h, q⟩ => by
  unfold qP at h
  dsimp only at h
  split at h
  · rename_i i h1
    cases h
    exact ⟨e, Hs, fe, P, _, ok, h1, fun v Hs1 H1 f1 n1 r1 => by
      obtain ⟨Hs2, n2, _, _⟩ := n1.frz r1
      exact ⟨i, r1.toI, q Hs2 H1 n2⟩⟩
  · cases h
theorem canQP.on {F : En → Option (Option Int)} {e : En} {Hs H Hs' H' : Hp} {σ : L2.St} {fe : Fp} {P : Addr → Prop} {k : Option Int} {Q : Option Int → Hp → Prop} (ok : Ok C Hs H σ e fe f0 P) (n : New Hs H Hs' H' f0) (h : F e = some k) (q : ∀ Hs2 H2, New Hs' H' Hs2 H2 f0 → Q k H2) : canQP C F σ H' Q :=
  ⟨e, Hs', fe, P, k, ok.newN n, h, q⟩
theorem bq_sl (hk : X.K = C.K) (ha : BL X C a Fl) (hl : BQP X C lo (qP Ql)) (hh : BQP X C hi (qP Qh)) : BQ X C (.Subscript a (.Slice lo hi none p2) pos) (qSl Fl Ql Qh) :=
  (pe_slice sl_A ha hl hh).imp fun σ H Q ⟨e, Hs, fe, P, d, ok, hd, q⟩ => by
    unfold qSl at hd
    obtain ⟨⟨d0, S0⟩, h1, h2⟩ := Option.bind_eq_some_iff.mp hd
    obtain ⟨l, h3, h4⟩ := Option.bind_eq_some_iff.mp h2
    obtain ⟨h, h5, h6⟩ := Option.bind_eq_some_iff.mp h4
    obtain ⟨z, h7, h8⟩ := Option.bind_eq_some_iff.mp h6
    split at h8
    · rename_i hz
      cases h8
      refine ⟨e, Hs, fe, P, d0, S0, ok, h1, fun v f1 Hs1 H1 n1 l1 => ?_⟩
      refine canQP.on ok n1 h3 fun Hs2 H2 n2 => ?_
      refine canQP.on ok (n1.trans n2) h5 fun Hs3 H3 n3 => ?_
      have r3 := (l1.rp.keepN n2).keepN n3
      show rSlA X.K _ _ _ _ _
      rw [hk]
      exact tempF n3.sm r3 hz (fun Hs4 s4 _ r4 q4 => sliceS (G := C.toGc) s4 r4 h7 q4) fun v' Hs5 H5 fv n5 r5 => q v' Hs5 H5 fv (n1.trans (n2.trans (n3.trans n5))) r5
    · cases h8
/-- a built-in that looks at a place -/
theorem bq_call1 {x : Expr} {r : List V → Hp → VK → Prop} {g : List D → Option D} (hp : ∀ t, PA X [a] t → PE X x (tCB r t)) (hg : CallB C.toGc r g) (ha : BL X C a Fl) (hst : starEach [a] X.env = (false, eval a X.env) :: starEach [] X.env) : BQ X C x (qCall1 g Fl) :=
  (hp _ (pa_cons ha pa_nil hst)).imp fun σ H Q ⟨e, Hs, fe, P, d, ok, hd, q⟩ => by
    unfold qCall1 at hd
    obtain ⟨⟨d0, S0⟩, h1, h2⟩ := Option.bind_eq_some_iff.mp hd
    refine ⟨e, Hs, fe, P, d0, S0, ok, h1, fun v f1 Hs1 H1 n1 l1 => ?_⟩
    exact hg n1.sm (.cons l1.rp .nil) h2 fun v rz => q v Hs1 H1 f0 n1 rz
theorem be_appL {x : Expr} (hp : ∀ tp t, PE X o tp → PA X [a] t → PE X x (tBM X.K "list" rAppend tp t)) (hl : BL X C o Fl) (ha : BQ X C a Fa) (hst : starEach [a] X.env = (false, eval a X.env) :: starEach [] X.env) : BE X C W x (eAppL Fl Fa) :=
  (hp _ _ hl (pa_cons ha pa_nil hst)).imp fun σ H Q ⟨e, Hs, fe, P, ok, q⟩ => by
    unfold eAppL at q
    split at q
    · rename_i xs S h1
      split at q
      · rename_i d h2
        split at q
        · rename_i hlim
          refine ⟨e, Hs, fe, P, _, S, ok, h1, fun v f1 Hs1 H1 n1 l1 => ?_⟩
          obtain ⟨p, vs, g, rfl, hH, _⟩ := l1.rp.lst n1.sm
          refine ⟨.inl ⟨rfl, vs, SqL.of hH⟩, ?_⟩
          refine canQ.on ok n1 h2 fun u Hs3 H3 f3 n3 r3 => ?_
          have l3 := l1.keepN n3 (ok.newN n1).sl
          obtain ⟨p', vs', g', e1, at_, rs, hl', rsu, rdu, fin⟩ := (ok.newN (n1.trans n3)).nodeL l3
          cases e1
          refine ⟨p, vs', u, rfl, rfl, at_, by rw [hl']; exact lim_lt (Nat.le_of_lt hlim), ?_⟩
          obtain ⟨fe', af, ok2⟩ := fin (.lst (vs' ++ [u])) .lst (vs' ++ [u]) (xs ++ [d]) (fun b => g' b + f3 b) upd_same rfl (fun b => Nat.le_refl _) ((rsu _).app (.cons (rdu _ _ _ r3) (.nil (f := f0) fun _ => rfl) (h := f3) fun b => rfl) fun b => rfl)
          exact q .non Hs3 _ fe' f0 (((n1.trans n3).aft ok).trans af) (ok2.fps (fun _ => rfl) fun _ => rfl) r_non
        · exact q.elim
      · exact q.elim
    · exact q.elim
theorem pcAppL (h1 : attributeBase o "append" X.env (eval o X.env) = eval o X.env) (h2 : ((backTo pos (starEach [a] X.env)).all (!·.1) && (backToKw pos (keywordEach [] X.env)).all (·.1.isSome) && decide (([a].length + ([] : List Keyword).length + if ([] : List Keyword).isEmpty then 0 else 1) < 30)) = true) (h3 : (apos.endLine == pos.line) = true)
    (h4 : starEach [a] X.env = (false, eval a X.env) :: starEach [] X.env) (h5 : (backTo pos (starEach [] X.env)).any (·.1) = false) : ∀ tp t, PE X o tp → PA X [a] t → PE X (.Call (.Attribute o "append" apos) [a] [] pos) (tBM X.K "list" rAppend tp t) :=
  fun _ _ ho ha => pe_bm PySem.F.plainAttrs_list PySem.F.slot_list_append PySem.F.type_list_append mt_append ho ha h1 h2 h3 h4 h5
theorem be_gint {x : Str} {i : Int} (hg : Gl X x) (hd : (x == ("__debug__" : Str)) = false) (hm : ∃ t, X.mg x = some (.int i t)) : BE X C W (.Name x pos) (eC (.int i)) := by
  obtain ⟨t, hm⟩ := hm
  exact be_c (pe_glob (v := .int i) hg hm ⟨t, rfl⟩ hd) fun _ _ => .int fun _ => rfl
/-! ### bits -/
def andD : D → D → Option D
  | .int i, .int 255 => some (.int (i % 256))
  | _, _ => none
theorem andS {G : Gc} : OpS G (fun x y H Q => ∃ (i : Int) (k : Nat), x = V.int i ∧ y = V.int (2 ^ k - 1) ∧ Q (V.int (i % 2 ^ k)) H) andD := by
  intro Hs H v1 v2 d1 d2 z Q s r1 r2 hz q
  unfold andD at hz
  split at hz
  · cases hz
    rw [r1.toI, r2.toI]
    exact ⟨_, 8, rfl, rfl, res0 s q (r_int _)⟩
  · cases hz
end
end Bx

set_option Elab.async false
set_option linter.all false
set_option maxRecDepth 100000
set_option maxHeartbeats 1000000
/-! sorted of ints. -/
namespace Bx
open PySem L2
def leI (a b : Int) : Bool := decide (a ≤ b)
def sortI (ns : List Int) : List Int := ns.mergeSort leI
theorem sortI_perm (ns : List Int) : (sortI ns).Perm ns := List.mergeSort_perm _ _
theorem sortI_le (ns : List Int) : (sortI ns).Pairwise (· ≤ ·) := by
  have h := List.pairwise_mergeSort (le := leI) (fun a b c h1 h2 => by unfold leI at *; simp only [decide_eq_true_eq] at *; omega) (fun a b => by unfold leI; simp only [Bool.or_eq_true, decide_eq_true_eq]; omega) ns
  exact h.imp fun h => by unfold leI at h; simpa using h
theorem sortI_uniq {ns ns' : List Int} (h : ns'.Perm ns) (s : ns'.Pairwise (· ≤ ·)) : ns' = sortI ns :=
  List.Perm.eq_of_pairwise (le := (· ≤ ·)) (fun a b _ _ h1 h2 => Int.le_antisymm h1 h2) s (sortI_le ns) (h.trans (sortI_perm ns).symm)
def sortedD : List D → Option D
  | [d] => match d.seq with
    | some (true, xs) => (intsD xs).map fun ns => .nd .lst true ((sortI ns).map D.int)
    | _ => none
  | _ => none
section
variable {G : Gc}
theorem sortedS : CallS G (rSortedI G.K) sortedD := by
  intro Hs H vs ds z Q s r0 hz q
  unfold sortedD at hz
  split at hz
  · split at hz
    · rename_i xs h
      obtain ⟨ns, h2, rfl⟩ := Option.map_eq_some_iff.mp hz
      obtain ⟨v, rfl, r⟩ := r0.one
      obtain ⟨a, ws, g, rfl, h1, _, rs, le⟩ := r.seq s h
      rw [intsD_some h2] at rs
      refine ⟨a, ns, rfl, by rw [← rs.ints]; exact h1 rfl, fun ns' p hp hs hn => ?_⟩
      rw [sortI_uniq hp hs]
      have ri : ∀ ns : List Int, Rps G Hs H (ns.map V.int) (ns.map D.int) f0 := fun ns => by
        induction ns with
        | nil => exact .nil fun _ => rfl
        | cons n ns ih => exact .cons (r_int n) ih fun _ => rfl
      exact resLst s q (ri _) hn
    · cases hz
  · cases hz
end
end Bx

set_option Elab.async false
set_option linter.all false
set_option maxRecDepth 100000
set_option maxHeartbeats 1000000
/-! Lists repeated; dicts written at the top. -/
namespace Bx
open PySem L2
theorem npin_su {C : Cc} {i j : Nat} {a : Addr} {cls : Value} {d : Option Addr} (h : npin C j) (hn : i ≠ j) : npin (C.su i a cls d) j := fun p hp => by
  rcases List.mem_cons.mp hp with rfl | hp
  · exact hn
  · exact h p hp
def repD : D → D → Option D
  | .nd .lst _ xs, .int k => if decide (-4611686018427387904 < k) && decide (k < 4611686018427387904) && decide (xs.length * k.toNat ≤ lim) then some (.nd .lst true (List.replicate k.toNat xs).flatten) else none
  | _, _ => none
section
variable {G : Gc} {Hs H : Hp}
theorem rps_rep {vs : List V} {xs : List D} (r : Rps G Hs H vs xs f0) : ∀ n : Nat, Rps G Hs H (List.replicate n vs).flatten (List.replicate n xs).flatten f0
  | 0 => .nil fun _ => rfl
  | n + 1 => by
    rw [List.replicate_succ, List.replicate_succ, List.flatten_cons, List.flatten_cons]
    exact r.app (rps_rep r n) fun _ => rfl
theorem repS : OpS G rRep repD := by
  intro Hs H v1 v2 d1 d2 z Q s r1 r2 hz q
  unfold repD at hz
  split at hz
  · split at hz
    · rename_i hc
      cases hz
      simp only [Bool.and_eq_true, decide_eq_true_eq] at hc
      obtain ⟨a, vs, g, rfl, hH, rs, le⟩ := r1.lst s
      rw [r2.toI]
      have rz := rs.z le
      exact ⟨a, _, vs, rfl, rfl, hH, by omega, by omega, by rw [rs.len]; exact lim_le hc.2, fun p hp => resLst s q (rps_rep rz _) hp⟩
    · cases hz
  · cases hz
end
def tabL : List (Str × Int) → Str → Option Int
  | [], _ => none
  | (k, v) :: r, z => if k = z then some v else tabL r z
def KTab (K : PySem.W.Frag) (w : World) (p : Addr) : List (Str × Int) → Prop
  | [] => True
  | (k, v) :: r => KDct K w p k (.int v) ∧ KTab K w p r
theorem tabL_get {K : PySem.W.Frag} {w : World} {p : Addr} : ∀ {t : List (Str × Int)} {z : Str} {v : Int}, KTab K w p t → tabL t z = some v → KDct K w p z (.int v)
  | [], _, _, _, h => by cases h
  | (k, v') :: r, z, v, ⟨h1, h2⟩, h => by
    unfold tabL at h
    split at h
    · rename_i e; subst e; cases h; exact h1
    · exact tabL_get h2 h
def kdct_mk {K : PySem.W.Frag} {w : World} {a : Addr} {x : Str} {i : Int} {t : Tok} {es : Array DictEntry} {n : Nat} (h1 : K.lookup a = some ⟨.type "dict", none, .dict es n, #[]⟩) (h2 : PySem.W.KeysLit w.params es.toList) (h3 : PySem.W.nsIn K a x = some (some (.int i t))) : KDct K w a x (.int i) :=
  ⟨es, n, _, h1, h2, h3, t, rfl⟩
def kKd (t : List (Str × Int)) (y : D) (e1 : En) : Rs D := match frz y with
  | .str z => (match tabL t z with
    | some v => .ok (.int v) e1
    | none => .bad)
  | _ => .bad
/-- a dict written at the top, looked up -/
def eKd (t : List (Str × Int)) (b : FE) : FE := fun e => (b e).bind (kKd t)
section
variable {X : Cx} {C : Cc} {W : WX} {pos p : Pos} {b : Expr} {Fb : FE}
theorem be_kd {x : Str} {t : List (Str × Int)} (hg : Gl X x) (hd : (x == ("__debug__" : Str)) = false) (hm : ∃ a, X.mg x = some (.ref a) ∧ KTab X.K X.w a t) (hb : BE X C W b Fb) (hs : PlainIx b) : BE X C W (.Subscript (.Name x p) b pos) (eKd t Fb) := by
  obtain ⟨a, hm, ht⟩ := hm
  refine (pe_ix ix_kdict (pe_glob (v := .ref a) hg hm rfl hd) hb hs).imp fun σ H Q ⟨e, Hs, fe, P, ok, q⟩ => ?_
  refine firstE ok (EndE.bind q) fun y e1 v1 Hs1 H1 fe1 fv1 a1 ok1 r1 q1 => ?_
  unfold kKd at q1
  split at q1
  · rename_i z hz
    split at q1
    · rename_i v hv
      obtain ⟨Hs2, a2, ok2, r2, _⟩ := (ok1.fps (fun _ => rfl) (fx' := fun b => fv1 b + f0 b) fun _ => rfl).freeze r1
      rw [hz] at r2
      rw [r2.toS]
      exact ⟨a, z, _, rfl, rfl, tabL_get ht hv, q1 _ Hs2 H1 fe1 f0 (a1.trans a2) ok2 (r_int _)⟩
    · exact q1.elim
  · exact q1.elim
end
end Bx

set_option Elab.async false
set_option linter.all false
set_option maxRecDepth 100000
set_option maxHeartbeats 1000000
/-! Calls that look alone: what is handed is frozen for the call. -/
namespace Bx
open PySem L2
def Kd.nd : Kd → Bool
  | .dk _ => false
  | .dt _ => false
  | .dn _ => false
  | .st _ => false
  | _ => true
mutual
/-- no dict within -/
def noDk : D → Bool
  | .nd k _ xs => k.nd && noDks xs
  | _ => true
def noDks : List D → Bool
  | [] => true
  | x :: xs => noDk x && noDks xs
end
def Pl : HO → Prop
  | .lst _ => True
  | .tup _ => True
  | .ins _ _ _ => True
  | _ => False
section
variable {G : Gc} {Hs H : Hp}
mutual
theorem Rp.foot {v : V} {d : D} {f : Fp} : Rp G Hs H v d f → noDk d = true → ∀ b, f b ≠ 0 → ∃ o, H b = some o ∧ Pl o
  | .non z, _, b, hb => absurd (z b) hb
  | .bl z, _, b, hb => absurd (z b) hb
  | .int z, _, b, hb => absurd (z b) hb
  | .str z, _, b, hb => absurd (z b) hb
  | .ty z, _, b, hb => absurd (z b) hb
  | .sh h r z, _, b, hb => absurd (z b) hb
  | .own (a := a) (k := k) (vs := vs) (xs := xs) h w n r e, hd, b, hb => by
    have hd' : (k.nd && noDks xs) = true := hd
    rw [Bool.and_eq_true] at hd'
    by_cases hba : b = a
    · subst hba
      cases k with
      | lst => exact ⟨_, h, trivial⟩
      | tup => exact ⟨_, h, trivial⟩
      | wl => cases w
      | wt => cases w
      | dk ks => cases hd'.1
      | dt ks => cases hd'.1
      | dn ks => cases hd'.1
      | st ks => cases hd'.1
      | ins c fn => obtain ⟨_, dx, h2⟩ := h; exact ⟨_, h2, trivial⟩
    · rw [e b, if_neg hba] at hb
      exact Rps.foot r hd'.2 b hb
theorem Rps.foot {vs : List V} {ds : List D} {f : Fp} : Rps G Hs H vs ds f → noDks ds = true → ∀ b, f b ≠ 0 → ∃ o, H b = some o ∧ Pl o
  | .nil z, _, b, hb => absurd (z b) hb
  | .cons (f := f1) (g := g1) (d := d) (ds := ds) r rs e, hd, b, hb => by
    have hd' : (noDk d && noDks ds) = true := hd
    rw [Bool.and_eq_true] at hd'
    by_cases h1 : f1 b = 0
    · exact Rps.foot rs hd'.2 b (by rw [e b, h1] at hb; simpa using hb)
    · exact Rp.foot r hd'.1 b h1
end
theorem Rpb.view : ∀ {vs : List V} {ds : List D}, Rpb G Hs H vs ds → noDks ds = true → ∃ T : Addr → Prop, (∀ b, T b → Hs b = none ∧ ∃ o, H b = some o ∧ Pl o) ∧ ∀ Hs2, Same Hs Hs2 → (∀ b, T b → Hs2 b = H b) → Rps G Hs2 H vs (frzs ds) f0
  | _, _, .nil, _ => ⟨fun _ => False, fun b h => h.elim, fun Hs2 _ _ => .nil fun _ => rfl⟩
  | _, _, .cons (f := f) (d := d) (ds := ds) r rs, hd => by
    have hd' : (noDk d && noDks ds) = true := hd
    rw [Bool.and_eq_true] at hd'
    obtain ⟨T, h1, h2⟩ := Rpb.view rs hd'.2
    refine ⟨fun b => f b ≠ 0 ∨ T b, fun b hb => ?_, fun Hs2 s k => ?_⟩
    · rcases hb with hb | hb
      · exact ⟨(r.live b hb).2, r.foot hd'.1 b hb⟩
      · exact h1 b hb
    · exact .cons (r.frz s (f0 := f0) (fun _ => rfl) fun b hb => k b (.inl hb)) (h2 Hs2 s fun b hb => k b (.inr hb)) fun b => rfl
end
/-- a call that looks alone -/
def eCallV (n : Nat) (F : List D → CR) (as : FA) : FE := fun e => (as e).bind fun as e1 => match avs e1 as with
  | some ds => if ds.length = n ∧ noDks ds = true then (match F (frzs ds) with
    | .ok z _ => if flatZ z then .ok z e1 else .bad
    | .exc x _ => if x.xs.all D.sc then .exc x e1 else .bad
    | .bad => .bad) else .bad
  | none => .bad
section
variable {X : Cx} {C : Cc} {W : WX} {pos : Pos} {a : Expr} {es : List Expr} {As : FA}
theorem view_read {F : List D → CR} {n : Nat} {σ : L2.St} {H : Hp} {Q : VK} (h : canE C W (eCallV n F As) σ H Q) : canA C W As σ H fun vs H1 => spD C.toGc n F vs H1 Q (WE W σ) := by
  classical
  obtain ⟨e, Hs, fe, P, ok, q⟩ := h
  refine firstA ok q.bind fun as e1 vs Hs1 H1 fe1 fv1 a1 ok1 r1 q1 => ?_
  have q2 := q1.shift a1
  cases ht : avs e1 as with
  | none => rw [ht] at q2; exact q2.elim
  | some ds =>
    rw [ht] at q2
    dsimp only at q2
    by_cases hn : ds.length = n ∧ noDks ds = true
    rotate_left
    · rw [if_neg hn] at q2; exact q2.elim
    rw [if_pos hn] at q2
    have rb := r1.look ok1.sl ht
    obtain ⟨T, t1, t2⟩ := rb.view hn.2
    have s2 : Same Hs1 (fun b => if T b then H1 b else Hs1 b) := fun b u hb => by
      by_cases z : T b
      · rw [(t1 b z).1] at hb; cases hb
      · show (if T b then H1 b else Hs1 b) = some u
        rw [if_neg z]; exact hb
    have rd := t2 (fun b => if T b then H1 b else Hs1 b) s2 fun b hb => if_pos hb
    have sm2 : Sm (fun b => if T b then H1 b else Hs1 b) H1 := fun b u hb => by
      by_cases z : T b
      · have hb' : (if T b then H1 b else Hs1 b) = some u := hb
        rw [if_pos z] at hb'; exact .inl hb'
      · have hb' : (if T b then H1 b else Hs1 b) = some u := hb
        rw [if_neg z] at hb'; exact ok1.wf.sm b u hb'
    have len : vs.length = n := by have := rd.len; rw [frzs_len] at this; rw [this, hn.1]
    refine ⟨len, frzs ds, fun b => if T b then H1 b else Hs1 b, f0, fun b => P b ∨ (fe1 b ≠ 0 ∧ ¬ T b), ⟨sm2, fun b => Nat.zero_le _, fun b hb => absurd rfl hb, fun b hb => rfl, fun b hb => ?_⟩, rd, ?_⟩
    · rcases hb with hb | hb
      · exact ok1.wf.live b hb
      · exact (ok1.sl.live b hb.1).1
    -- the state behind the call
    have back : ∀ {Hs' H' : Hp} {fo fv : Fp}, Aft (fun b => if T b then H1 b else Hs1 b) H1 Hs' H' (fun b => P b ∨ (fe1 b ≠ 0 ∧ ¬ T b)) → Wf Hs' H' (fun b => fo b + fv b) (fun b => P b ∨ (fe1 b ≠ 0 ∧ ¬ T b)) →
        Aft Hs1 H1 (fun b => if T b then Hs1 b else Hs' b) H' P ∧ Ok C (fun b => if T b then Hs1 b else Hs' b) H' σ e1 fe1 (fun b => fv b) P ∧ (∀ b, T b → Hs' b = H1 b) := by
      intro Hs' H' fo fv af wf
      have tT : ∀ b, T b → Hs' b = H1 b := fun b hb => by
        obtain ⟨_, o, ho, _⟩ := t1 b hb
        have h5 : (fun b => if T b then H1 b else Hs1 b) b = some o := (if_pos hb).trans ho
        rw [af.sh b o h5, ho]
      have tH : ∀ b, T b → H' b = H1 b := fun b hb => by
        obtain ⟨_, o, ho, hp⟩ := t1 b hb
        have h5 := tT b hb
        rw [ho] at h5
        rcases wf.sm b o h5 with h | ⟨lk, _⟩
        · rw [h, ho]
        · cases o <;> first | exact lk.elim | exact hp.elim
      have tv : ∀ b, T b → fv b = 0 := fun b hb => by
        by_cases z : fv b = 0
        · exact z
        · have h5 := wf.own b (by omega)
          obtain ⟨_, o, ho, _⟩ := t1 b hb
          rw [tT b hb, ho] at h5; cases h5
      have kp : ∀ b, P b ∨ (fe1 b ≠ 0 ∧ ¬ T b) → Hs1 b = none → H' b = H1 b ∧ (T b ∨ Hs' b = none) := fun b hb hn => by
        by_cases z : T b
        · exact ⟨tH b z, .inl z⟩
        · have h5 := af.keep b hb (by show (if T b then H1 b else Hs1 b) = none; rw [if_neg z]; exact hn)
          exact ⟨h5.1, .inr h5.2⟩
      have sh : Same Hs1 (fun b => if T b then Hs1 b else Hs' b) := fun b u hb => by
        by_cases z : T b
        · rw [(t1 b z).1] at hb; cases hb
        · show (if T b then Hs1 b else Hs' b) = some u
          rw [if_neg z]; exact af.sh b u (s2 b u hb)
      refine ⟨⟨sh, fun b hb hn => ⟨(kp b (.inl hb) hn).1, ?_⟩, af.mono, af.lk⟩, ⟨⟨fun b u hb => ?_, fun b => ?_, fun b hb => ?_, fun b hb => ?_, fun b hb => wf.live b (.inl hb)⟩, ok1.sl.mono sh fun b hb => ?_, ok1.pn, ok1.ex.mono sh⟩, tT⟩
      · show (if T b then Hs1 b else Hs' b) = none
        rcases kp b (.inl hb) hn with ⟨_, z | z⟩
        · rw [if_pos z]; exact hn
        · by_cases y : T b
          · rw [if_pos y]; exact hn
          · rw [if_neg y, z]
      · have hb' : (if T b then Hs1 b else Hs' b) = some u := hb
        by_cases z : T b
        · rw [if_pos z, (t1 b z).1] at hb'; cases hb'
        · rw [if_neg z] at hb'; exact wf.sm b u hb'
      · have h1 := ok1.wf.one b; have h2 := wf.one b
        by_cases z : fe1 b = 0
        · omega
        · by_cases y : T b
          · have := tv b y; omega
          · have := wf.apart b (.inr ⟨z, y⟩); omega
      · show (if T b then Hs1 b else Hs' b) = none
        by_cases y : T b
        · rw [if_pos y]; exact (t1 b y).1
        · rw [if_neg y]
          by_cases z : fe1 b = 0
          · exact wf.own b (by omega)
          · rcases kp b (.inr ⟨z, y⟩) (ok1.sl.live b z).2 with ⟨_, w | w⟩
            · exact absurd w y
            · exact w
      · have := ok1.wf.apart b hb
        have := wf.apart b (.inl hb)
        omega
      · by_cases y : T b
        · refine ⟨tH b y, ?_⟩
          show (if T b then Hs1 b else Hs' b) = none
          rw [if_pos y]; exact (t1 b y).1
        · have h5 := kp b (.inr ⟨hb, y⟩) (ok1.sl.live b hb).2
          refine ⟨h5.1, ?_⟩
          show (if T b then Hs1 b else Hs' b) = none
          rw [if_neg y]
          rcases h5.2 with w | w
          · exact absurd w y
          · exact w
    cases hF : F (frzs ds) with
    | bad => rw [hF] at q2; exact q2
    | ok d os =>
      rw [hF] at q2
      dsimp only at q2
      intro v Hs' H' fv fo af wf rv so
      by_cases hz : flatZ d = true
      · rw [if_pos hz] at q2
        obtain ⟨af2, ok3, tT⟩ := back af wf
        refine q2 v _ H' fe1 fv af2 ok3 (rv.flatT hz fun b hb => ok3.wf.own b (by show fe1 b + fv b ≠ 0; omega))
      · rw [if_neg hz] at q2; exact q2.elim
    | exc x os =>
      rw [hF] at q2
      dsimp only at q2
      intro dd Hs' H' fo af wf so ex
      by_cases hz : x.xs.all D.sc = true
      · rw [if_pos hz] at q2
        obtain ⟨af2, ok3, tT⟩ := back (fo := fo) (fv := f0) af (wf.less fun b => Nat.le_refl _)
        refine q2 dd _ H' fe1 af2 (ok3.fps (fun _ => rfl) fun _ => rfl) ?_
        obtain ⟨ws, h1, h2, h3⟩ := ex
        refine ⟨ws, ?_, h2, h3.scT hz⟩
        show (if T dd then Hs1 dd else Hs' dd) = _
        by_cases y : T dd
        · obtain ⟨_, o, ho, hp⟩ := t1 dd y
          rw [tT dd y, ho] at h1
          cases h1; exact hp.elim
        · rw [if_neg y]; exact h1
      · rw [if_neg hz] at q2; exact q2.elim
theorem be_callV {k n : Nat} {f : Addr} {fd : FuncData} {ps : List Str} {Fn : List D → CR} {x : Str} {p : Pos} (F : FnOk X.prog X.w X.K X.mg X.base (L2.CX X.prog X.w) k f fd ps (spD C.toGc n Fn)) (hr : Room k X.A) (hg : Gl X x) (hm : X.mg x = some (.ref f)) (hk : PySem.W.keepIn X.K (.ref f) = true)
    (hb : Binds X.K fd ps []) (tk : Takes X W) (ha : BA X C W (a :: es) As) (hdb : (x == ("__debug__" : Str)) = false) (he : starEach (a :: es) X.env = (false, eval a X.env) :: starEach es X.env) (hpl : (backTo pos (starEach es X.env)).any (·.1) = false) :
    BE X C W (.Call (.Name x p) (a :: es) [] pos) (eCallV n Fn As) :=
  (pe_callS F hr hg hm hk hb (E := WE W) (fun σ => passAt tk σ) ha hdb he hpl).imp fun σ H Q h => view_read h
end
end Bx

set_option Elab.async false
set_option linter.all false
set_option maxRecDepth 100000
set_option maxHeartbeats 1000000
/-! Chains of comparisons, index, extend, methods of a new instance, tuples of the top. -/
namespace Bx
open PySem L2
/-! ### a op b op' c -/
def eChain (g g' : D → D → Option D) (a b c : FE) : FE := fun e => (a e).bind fun x e1 => (b e1).bind fun y e2 => match g (frz x) (frz y) with
  | some (.bl k) => if k then (c e2).bind fun w e3 => .opt (g' (frz y) (frz w)) e3 else .ok (.bl false) e2
  | _ => .bad
section
variable {X : Cx} {C : Cc} {W : WX} {pos : Pos} {a b c : Expr} {Fa Fb Fc : FE}
theorem chain_read {r r' : R2} {g g' : D → D → Option D} (hs : OpS C.toGc r g) (hs' : OpS C.toGc r' g') {σ : L2.St} {H : Hp} {Q : VK} (h : canE C W (eChain g g' Fa Fb Fc) σ H Q) : tChain r r' (canE C W Fa) (canE C W Fb) (canE C W Fc) σ H Q := by
  obtain ⟨e, Hs, fe, P, ok, q⟩ := h
  refine firstE ok q.bind fun d1 e1 v1 Hs1 H1 fe1 fv1 a1 ok1 r1 q1 => ?_
  refine bindE ok1 (.rp r1) (q1.shift a1).bind fun d2 e2 v2 Hs2 H2 fe2 fv2 a2 ok2 r1 r2 q2 => ?_
  obtain ⟨Hs3, a3, ok3, r1', r2'⟩ := ok2.frzX r1 (.rp r2)
  obtain ⟨Hs4, a4, ok4, r2'', r1''⟩ := (ok3.fps (fun _ => rfl) (fx' := fun b => fv2 b + f0 b) fun _ => rfl).frzX r2' (.rp r1')
  have q3 := (q2.shift (a2.weak fun b hb => .inl hb)).shift (a3.trans a4)
  cases hz : g (frz d1) (frz d2) with
  | none => rw [hz] at q3; exact q3.elim
  | some z =>
    rw [hz] at q3
    cases z with
    | bl k =>
      dsimp only at q3
      refine hs ok4.sm r1'' r2'' hz fun v Hs5 H5 fv n rz => ⟨k, rz.toB, ?_⟩
      have ok5 := ((ok4.new n fun _ h => absurd rfl h).less (fx' := f0) fun _ => Nat.zero_le _)
      have q5 := q3.shift (n.aft ok4)
      have r5 : Rp C.toGc Hs5 H5 v2 (frz d2) f0 := r2''.keepN n
      cases k with
      | true =>
        rw [if_pos rfl] at q5 ⊢
        refine bindE ok5 (.rp r5) q5.bind fun d6 e6 v6 Hs6 H6 fe6 fv6 a6 ok6 r5' r6 q6 => ?_
        obtain ⟨Hs7, a7, ok7, r7, r5''⟩ := (ok6.fps (fe' := fe6) (fx' := fun b => fv6 b + f0 b) (fun _ => rfl) fun b => Nat.add_comm _ _).frzX r6 (.rp r5')
        have q7 := (q6.shift (a6.weak fun b hb => .inl hb)).shift a7
        cases hw : g' (frz d2) (frz d6) with
        | none => rw [hw] at q7; exact q7.elim
        | some w =>
          rw [hw] at q7
          exact hs' ok7.sm r5'' r7 hw fun u Hs8 H8 fu n8 ru => q7 u Hs8 H8 fe6 fu (n8.aft ok7) ((ok7.new n8 fun _ h => absurd rfl h).fps (fun _ => rfl) fun _ => (Nat.zero_add _).symm) ru
      | false =>
        rw [if_neg (by simp)] at q5 ⊢
        exact q5 _ Hs5 H5 fe2 f0 (Aft.refl _ _ _) ok5 (r_bl _)
    | _ => exact q3.elim
theorem be_chain {op op' : CmpOp} {r r' : R2} {g g' : D → D → Option D} (ho : OpR X (compareOp op) r) (ho' : OpR X (compareOp op') r') (hs : OpS C.toGc r g) (hs' : OpS C.toGc r' g') (hm : lastMarks [op, op'] [b, c] = false) (ha : BE X C W a Fa) (hb : BE X C W b Fb) (hc : BE X C W c Fc) :
    BE X C W (.Compare a [op, op'] [b, c] pos) (eChain g g' Fa Fb Fc) := (pe_chain ho ho' ha hb hc hm).imp fun σ H Q h => chain_read hs hs' h
theorem bt_chain {op op' : CmpOp} {r r' : R2} {g g' : D → D → Option D} (ho : OpR X (compareOp op) r) (ho' : OpR X (compareOp op') r') (hs : OpS C.toGc r g) (hs' : OpS C.toGc r' g') (hm : lastMarks [op, op'] [b, c] = false) (ha : BE X C W a Fa) (hb : BE X C W b Fb) (hc : BE X C W c Fc) :
    BT X C W (.Compare a [op, op'] [b, c] pos) (tTst (eChain g g' Fa Fb Fc)) := bt_of (pt_chain ho ho' ha hb hc hm) fun σ H Q h => chain_read hs hs' h
end
/-! ### tuples and any tuples -/
def addXD : D → D → Option D
  | .nd .tup _ xs, .nd .tup _ ys => if xs.length + ys.length ≤ lim then some (.nd .tup false (xs ++ ys)) else none
  | a, b => addD a b
def rAddX (K : PySem.W.Frag) : R2 := fun x y H Q => rAddA K x y H Q ∨ rCatA K x y H Q
theorem op_addX {X : Cx} : OpR X (binaryOp .Add) (rAddX X.K) := OpR.or op_addA op_catA
theorem addXS {G : Gc} : OpS G (rAddX G.K) addXD := by
  intro Hs H v1 v2 d1 d2 z Q s r1 r2 hz q
  unfold addXD at hz
  split at hz
  · rename_i o xs o' ys
    split at hz
    · rename_i hl
      cases hz
      obtain ⟨a, vs, g, rfl, _, h1, rs1, le1⟩ := r1.seq s (b := false) (xs := xs) rfl
      obtain ⟨b, ws, g', rfl, _, h2, rs2, le2⟩ := r2.seq s (b := false) (xs := ys) rfl
      have z1 := rs1.z le1
      have z2 := rs2.z le2
      refine .inr ⟨a, b, vs, ws, rfl, rfl, h1 rfl, h2 rfl, by rw [rs1.len, rs2.len]; exact lim_le hl, fun hn => ?_, fun hn hm => ?_, fun _ _ p hp => resTup s q (z1.app z2 fun _ => rfl) hp⟩
      · have hx : xs = [] := by have := rs1.len; rw [hn] at this; exact List.length_eq_zero_iff.mp this.symm
        subst hx
        cases r2 with
        | sh at2 r z => exact res0 s q (.sh at2 r fun _ => rfl)
        | own _ _ _ _ e => have := e b; rw [if_pos rfl] at this; simp only [f0] at this; omega
      · have hy : ys = [] := by have := rs2.len; rw [hm] at this; exact List.length_eq_zero_iff.mp this.symm
        subst hy
        rw [List.append_nil] at *
        cases r1 with
        | sh at1 r z => exact res0 s q (.sh at1 r fun _ => rfl)
        | own _ _ _ _ e => have := e a; rw [if_pos rfl] at this; simp only [f0] at this; omega
    · cases hz
  · exact .inl (addS (G := G) s r1 r2 hz q)
/-! ### things of the top -/
def cV : D → Option V
  | .int i => some (.int i)
  | .str x => some (.str x)
  | .bl b => some (.bl b)
  | .non => some .non
  | _ => none
/-- a tuple written at the top, its items flat -/
def GTup (K : PySem.W.Frag) (mg : Str → Option Value) (x : Str) (xs : List D) : Prop := ∃ (a : Addr) (its : Array Value) (n : Nat) (vs : List V) (sl : Array (Option Value)), mg x = some (.ref a) ∧ K.lookup a = some ⟨.type "tuple", none, .seq its n, sl⟩ ∧ its.size ≤ sizeLine ∧ Vals vs its.toList ∧
  ∀ (G : Gc) (Hs H : Hp), Rps G Hs H vs xs f0
section
variable {X : Cx} {C : Cc} {W : WX} {pos p apos : Pos} {a b c o : Expr} {es : List Expr} {Fa Fb Fc Fo : FE} {As : FA} {Fl Fm : FL}
theorem be_gtup {x : Str} {xs : List D} (hk : X.K = C.K) (hg : Gl X x) (hd : (x == ("__debug__" : Str)) = false) (hm : GTup X.K X.mg x xs) : BE X C W (.Name x pos) (eC (.nd .wt false xs)) := by
  obtain ⟨a, its, n, vs, sl, h1, h2, h3, h4, h5⟩ := hm
  refine be_c (v := .ref a) (pe_glob hg h1 rfl hd) fun Hs H => .sh (k := .wt) (vs := vs) ?_ (h5 _ _ _) fun _ => rfl
  rw [hk] at h2
  exact .inr ⟨_, its, n, h2, rfl, rfl, h3, h4⟩
/-! ### x.index(y), texts -/
def strsD : List D → Option (List Str)
  | [] => some []
  | .str x :: xs => (strsD xs).map (x :: ·)
  | _ => none
theorem strsD_some : ∀ {xs : List D} {ss : List Str}, strsD xs = some ss → xs = ss.map D.str
  | [], _, h => by cases h; rfl
  | d :: xs, ss, h => by
    cases d with
    | str x =>
      have h' : (strsD xs).map (x :: ·) = some ss := h
      obtain ⟨ss', h1, rfl⟩ := Option.map_eq_some_iff.mp h'
      rw [strsD_some h1]; rfl
    | _ => cases h
def spos : List Str → Str → Option Nat
  | [], _ => none
  | x :: xs, y => if x = y then some 0 else (spos xs y).map (· + 1)
theorem spos_at : ∀ {xs : List Str} {y : Str} {j : Nat}, spos xs y = some j → xs[j]? = some y ∧ ∀ m, m < j → xs[m]? ≠ some y
  | [], _, _, h => by cases h
  | x :: xs, y, j, h => by
    unfold spos at h
    split at h
    · rename_i e; subst e; cases h; exact ⟨rfl, fun m hm => absurd hm (Nat.not_lt_zero _)⟩
    · rename_i e
      obtain ⟨i, h1, rfl⟩ := Option.map_eq_some_iff.mp h
      obtain ⟨h2, h3⟩ := spos_at h1
      refine ⟨h2, fun m hm => ?_⟩
      cases m with
      | zero => exact fun z => e (Option.some.inj z)
      | succ m => exact h3 m (by omega)
def idxSD : D → D → Option D
  | .nd k _ xs, .str y => match k with
    | .lst => (strsD xs).bind fun ss => (spos ss y).map fun (j : Nat) => D.int (j : Int)
    | _ => none
  | _, _ => none
/-- list.index of a text -/
def eIdx (o a : FE) : FE := fun e => (o e).bind fun x e1 => match frz x with
  | .nd .lst _ _ => (a e1).bind fun y e2 => .opt (idxSD (frz x) (frz y)) e2
  | _ => .bad
theorem rps_strs {G : Gc} {Hs H : Hp} : ∀ {vs : List V} {ss : List Str} {f : Fp}, Rps G Hs H vs (ss.map D.str) f → vs = ss.map V.str
  | _, [], _, .nil _ => rfl
  | _, s :: ss, _, .cons r rs _ => by rw [r.toS, rps_strs rs]; rfl
theorem be_idx {x : Expr} (hk : X.K = C.K) (hp : ∀ to t, PE X o to → PA X [a] t → PE X x (tBM X.K "list" (rIndex X.K) to t)) (ho : BE X C W o Fo) (ha : BE X C W a Fa) (hst : starEach [a] X.env = (false, eval a X.env) :: starEach [] X.env) : BE X C W x (eIdx Fo Fa) :=
  (hp _ _ ho (pa_cons ha pa_nil hst)).imp fun σ H Q ⟨e, Hs, fe, P, ok, q⟩ => by
    refine firstE ok (EndE.bind q) fun d1 e1 v1 Hs1 H1 fe1 fv1 a1 ok1 r1 q1 => ?_
    obtain ⟨Hs2, a2, ok2, r2, _⟩ := (ok1.fps (fun _ => rfl) (fx' := fun b => fv1 b + f0 b) fun _ => rfl).freeze r1
    have q2 := q1.shift (a1.trans a2)
    split at q2
    · rename_i o' xs hd
      rw [hd] at r2
      obtain ⟨p, vs, g, rfl, h1, _, rs, le⟩ := r2.seq ok2.sm (b := true) (xs := xs) rfl
      refine ⟨.inl ⟨rfl, vs, by rw [hk]; exact h1 rfl⟩, ?_⟩
      refine bindE ok2 (.rp r2) (EndE.bind q2) fun d3 e3 v3 Hs3 H3 fe3 fv3 a3 ok3 r2' r3 q3 => ?_
      obtain ⟨Hs4, a4, ok4, r4, r2''⟩ := (ok3.fps (fe' := fe3) (fx' := fun b => fv3 b + f0 b) (fun _ => rfl) fun b => Nat.add_comm _ _).frzX r3 (.rp r2')
      have q4 := (q3.shift (a3.weak fun b hb => .inl hb)).shift a4
      rw [hd] at q4
      cases hz : idxSD (.nd .lst o' xs) (frz d3) with
      | none => rw [hz] at q4; exact q4.elim
      | some z =>
        rw [hz] at q4
        unfold idxSD at hz
        split at hz
        · rename_i k _ xs' y he hy
          cases he
          dsimp only at hz
          obtain ⟨ss, h5, h6⟩ := Option.bind_eq_some_iff.mp hz
          obtain ⟨j, h7, rfl⟩ := Option.map_eq_some_iff.mp h6
          obtain ⟨h8, h9⟩ := spos_at h7
          rw [hy] at r4
          obtain ⟨p', vs', g', e1', h1', _, rs', le'⟩ := r2''.seq ok4.sm (b := true) (xs := xs) rfl
          cases e1'
          rw [strsD_some h5] at rs'
          have e5 := rps_strs rs'
          subst e5
          rw [r4.toS]
          refine ⟨p, _, .str y, j, .str y, rfl, rfl, by rw [hk]; exact h1' rfl, rfl, ?_, by rw [List.getElem?_map, h8]; rfl, by simp [eqV], fun m z' hm hz' => ?_, q4 _ Hs4 H3 fe3 f0 (Aft.refl _ _ _) ok4 (r_int _)⟩
          · rw [List.all_map, List.all_eq_true]; intro x _; rfl
          · rw [List.getElem?_map] at hz'
            obtain ⟨w, hw, rfl⟩ := Option.map_eq_some_iff.mp hz'
            have := h9 m hm
            rw [hw] at this
            have hne : ¬ w = y := fun z => this (by rw [z])
            simp [eqV, hne]
        · cases hz
    · exact q2.elim
theorem pcIdx (h1 : attributeBase o "index" X.env (eval o X.env) = eval o X.env) (h2 : ((backTo pos (starEach [a] X.env)).all (!·.1) && (backToKw pos (keywordEach [] X.env)).all (·.1.isSome) && decide (([a].length + ([] : List Keyword).length + if ([] : List Keyword).isEmpty then 0 else 1) < 30)) = true) (h3 : (apos.endLine == pos.line) = true)
    (h4 : starEach [a] X.env = (false, eval a X.env) :: starEach [] X.env) (h5 : (backTo pos (starEach [] X.env)).any (·.1) = false) : ∀ to t, PE X o to → PA X [a] t → PE X (.Call (.Attribute o "index" apos) [a] [] pos) (tBM X.K "list" (rIndex X.K) to t) :=
  fun _ _ ho ha => pe_bm PySem.F.plainAttrs_list PySem.F.slot_list_index PySem.F.type_list_index mt_index ho ha h1 h2 h3 h4 h5
end
end Bx

set_option Elab.async false
set_option linter.all false
set_option maxRecDepth 100000
set_option maxHeartbeats 1000000
/-! index in a tuple of the top, extend at a place, a method of a new instance. -/
namespace Bx
open PySem L2
def kGIdx (ss : List Str) (y : D) (e : En) : Rs D := match frz y with
  | .str z => (match spos ss z with
    | some j => .ok (.int (j : Int)) e
    | none => .bad)
  | _ => .bad
/-- index in a tuple of texts of the top -/
def eGIdx (ss : List Str) (a : FE) : FE := fun e => (a e).bind (kGIdx ss)
/-- place.extend(place) -/
def eExtL (p q : FL) : FE := fun e => match p e with
  | some (.nd .lst true xs, S) => (match q e with
    | some (.nd .lst _ ys, _) => if ys.all D.sc && decide (xs.length + ys.length ≤ lim) then .ok .non (S (.nd .lst true (xs ++ ys))) else .bad
    | _ => .bad)
  | _ => .bad
/-- o.m(..), o a new instance -/
def eMethE (c0 m : Str) (n : Nat) (F : List D → CR) (o : FE) (as : FA) : FE := fun e => (o e).bind fun d e1 => match d with
  | .nd (.ins c fn) _ _ => if c = c0 ∧ kpos fn m = none then (as e1).bind fun as e2 => (match takeA e2 as with
    | some (ds, e3) => if ds.length + 1 = n then (match F (d :: ds) with
      | .ok z (_ :: os) => (match putA as os e3 with
        | some e4 => .ok z e4
        | none => .bad)
      | _ => .bad) else .bad
    | none => .bad) else .bad
  | _ => .bad
section
variable {X : Cx} {C : Cc} {W : WX} {pos p apos : Pos} {a b c o : Expr} {es : List Expr} {Fa Fb Fc Fo : FE} {As : FA} {Fl Fm : FL}
theorem be_gidx {x : Str} {ss : List Str} (hk : X.K = C.K) (hg : Gl X x) (hd : (x == ("__debug__" : Str)) = false) (hm : GTup X.K X.mg x (ss.map D.str)) (ha : BE X C W a Fa)
    (h1 : attributeBase (.Name x p) "index" X.env (eval (.Name x p) X.env) = eval (.Name x p) X.env) (h2 : ((backTo pos (starEach [a] X.env)).all (!·.1) && (backToKw pos (keywordEach [] X.env)).all (·.1.isSome) && decide (([a].length + ([] : List Keyword).length + if ([] : List Keyword).isEmpty then 0 else 1) < 30)) = true) (h3 : (apos.endLine == pos.line) = true)
    (h4 : starEach [a] X.env = (false, eval a X.env) :: starEach [] X.env) (h5 : (backTo pos (starEach [] X.env)).any (·.1) = false) : BE X C W (.Call (.Attribute (.Name x p) "index" apos) [a] [] pos) (eGIdx ss Fa) := by
  obtain ⟨q, its, n, vs, sl, g1, g2, g3, g4, g5⟩ := hm
  have hv : vs = ss.map V.str := rps_strs (g5 C.toGc (fun _ => none) fun _ => none)
  subst hv
  refine (pe_bm PySem.F.plainAttrs_tuple PySem.F.slot_tuple_index PySem.F.type_tuple_index mt_tup_index (pe_glob (v := .ref q) hg g1 rfl hd) (pa_cons ha pa_nil h4) h1 h2 h3 h4 h5).imp fun σ H Q ⟨e, Hs, fe, P, ok, q0⟩ => ?_
  refine ⟨.inr (.inl ⟨rfl, _, g2, rfl, rfl⟩), ?_⟩
  refine firstE ok (EndE.bind q0) fun y e1 v1 Hs1 H1 fe1 fv1 a1 ok1 r1 q1 => ?_
  unfold kGIdx at q1
  split at q1
  · rename_i z hz
    split at q1
    · rename_i j hj
      obtain ⟨Hs2, a2, ok2, r2, _⟩ := (ok1.fps (fun _ => rfl) (fx' := fun b => fv1 b + f0 b) fun _ => rfl).freeze r1
      rw [hz] at r2
      rw [r2.toS]
      obtain ⟨h8, h9⟩ := spos_at hj
      exact ⟨q, ss, z, j, rfl, rfl, .inr ⟨_, its, n, g2, rfl, rfl, g3, g4⟩, h8, h9, q1 _ Hs2 H1 fe1 f0 (a1.trans a2) ok2 (r_int _)⟩
    · exact q1.elim
  · exact q1.elim
theorem Rps.sc0 {G : Gc} {Hs H Hs2 H2 : Hp} : ∀ {vs : List V} {ds : List D} {f : Fp}, Rps G Hs H vs ds f → ds.all D.sc = true → Rps G Hs2 H2 vs ds f0
  | _, _, _, .nil z, _ => .nil fun _ => rfl
  | _, _, _, .cons r rs e, h => by
    rw [List.all_cons, Bool.and_eq_true] at h
    exact .cons ((r.f0 h.1).scT h.1) (Rps.sc0 rs h.2) fun _ => rfl
theorem be_extL {x : Expr} (hp : ∀ tp t, PE X o tp → PA X [a] t → PE X x (tBM X.K "list" rExtend tp t)) (hl : BL X C o Fl) (ha : BL X C a Fm) (hst : starEach [a] X.env = (false, eval a X.env) :: starEach [] X.env) : BE X C W x (eExtL Fl Fm) :=
  (hp _ _ hl (pa_cons ha pa_nil hst)).imp fun σ H Q ⟨e, Hs, fe, P, ok, q⟩ => by
    unfold eExtL at q
    split at q
    · rename_i xs S h1
      split at q
      · rename_i o' ys S' h2
        split at q
        · rename_i hc
          rw [Bool.and_eq_true, decide_eq_true_eq] at hc
          refine ⟨e, Hs, fe, P, _, S, ok, h1, fun v f1 Hs1 H1 n1 l1 => ?_⟩
          obtain ⟨p, vs, g, rfl, hH, _⟩ := l1.rp.lst n1.sm
          refine ⟨.inl ⟨rfl, vs, SqL.of hH⟩, ?_⟩
          refine ⟨e, Hs1, fe, P, _, S', ok.newN n1, h2, fun u f3 Hs3 H3 n3 l3 => ?_⟩
          have l1' := l1.keepN n3 (ok.newN n1).sl
          obtain ⟨p', vs', g', e1, at_, rs, hl', rsu, rdu, fin⟩ := (ok.newN (n1.trans n3)).nodeL l1'
          cases e1
          obtain ⟨b, ws, g3, rfl, hB, rs3, le3⟩ := l3.rp.lst n3.sm
          refine ⟨p, b, vs', ws, rfl, rfl, at_, hB, by rw [hl', rs3.len]; exact lim_le hc.2, ?_⟩
          obtain ⟨fe', af, ok2⟩ := fin (.lst (vs' ++ ws)) .lst (vs' ++ ws) (xs ++ ys) g' upd_same rfl (fun b => by show g' b ≤ g' b + f0 b; omega) ((rsu _).app (rs3.sc0 hc.1) fun b => rfl)
          exact q .non Hs3 _ fe' f0 (((n1.trans n3).aft ok).trans af) (ok2.fps (fun _ => rfl) fun _ => rfl) r_non
        · exact q.elim
      · exact q.elim
    · exact q.elim
theorem pcExtL (h1 : attributeBase o "extend" X.env (eval o X.env) = eval o X.env) (h2 : ((backTo pos (starEach [a] X.env)).all (!·.1) && (backToKw pos (keywordEach [] X.env)).all (·.1.isSome) && decide (([a].length + ([] : List Keyword).length + if ([] : List Keyword).isEmpty then 0 else 1) < 30)) = true) (h3 : (apos.endLine == pos.line) = true)
    (h4 : starEach [a] X.env = (false, eval a X.env) :: starEach [] X.env) (h5 : (backTo pos (starEach [] X.env)).any (·.1) = false) : ∀ tp t, PE X o tp → PA X [a] t → PE X (.Call (.Attribute o "extend" apos) [a] [] pos) (tBM X.K "list" rExtend tp t) :=
  fun _ _ ho ha => pe_bm PySem.F.plainAttrs_list PySem.F.slot_list_extend PySem.F.type_list_extend mt_extend ho ha h1 h2 h3 h4 h5
theorem methE_read {F : List D → CR} {n : Nat} {c0 m : Str} {σ : L2.St} {H : Hp} {Q : VK} (h : canE C W (eMethE c0 m n F Fo As) σ H Q) : tMethE (C.ca c0) m (spD C.toGc n F) (WE W) (canE C W Fo) (canA C W As) σ H Q := by
  obtain ⟨e, Hs, fe, P, ok, q⟩ := h
  refine firstE ok (EndE.bind q) fun d e1 v Hs1 H1 fe1 fv1 a1 ok1 r1 q1 => ?_
  split at q1
  · rename_i c fn o' xs
    split at q1
    · rename_i hc
      obtain ⟨rfl, hm⟩ := hc
      obtain ⟨p, vs, g, rfl, rs, le, at_⟩ := r1.nd ok1.sm
      obtain ⟨hfl, dx, hH⟩ := at_.ins ok1.sm
      refine ⟨p, dx, _, rfl, hH, by rw [lookup_kpos hfl, hm]; rfl, ?_⟩
      refine bindA ok1 (.rp r1) (q1.shift a1).bind fun as e2 us Hs2 H2 fe2 fv2 a2 ok2 r1 r2 q2 => ?_
      have q3 := q2.shift (a2.weak fun b hb => .inl hb)
      cases ht : takeA e2 as with
      | none => rw [ht] at q3; exact q3.elim
      | some de =>
        obtain ⟨ds, e3⟩ := de
        rw [ht] at q3
        dsimp only at q3
        by_cases hn : ds.length + 1 = n
        rotate_left
        · rw [if_neg hn] at q3; exact q3.elim
        rw [if_pos hn] at q3
        obtain ⟨fa, fe3, rd, s3, ef, ex3⟩ := r2.take ok2.sl ht
        have one : ∀ b, fe2 b + (fv1 b + fv2 b) ≤ 1 := ok2.wf.one
        refine ⟨by rw [List.length_cons, rd.len, hn], .nd (.ins c fn) o' xs :: ds, Hs2, fun b => fv1 b + fa b, fun b => P b ∨ fe3 b ≠ 0, ⟨ok2.wf.sm, fun b => by have := one b; have := ef b; show fv1 b + fa b ≤ 1; omega, fun b hb => ok2.wf.own b (by have := ef b; show fe2 b + (fv1 b + fv2 b) ≠ 0; have hb' : fv1 b + fa b ≠ 0 := hb; omega), fun b hb => by
          show fv1 b + fa b = 0
          rcases hb with hb | hb
          · have h3 : fe2 b + (fv1 b + fv2 b) = 0 := ok2.wf.apart b hb
            have := ef b; omega
          · have := one b; have := ef b; omega, fun b hb => by
          rcases hb with hb | hb
          · exact ok2.wf.live b hb
          · exact (s3.live b hb).1⟩, .cons r1 rd fun b => rfl, ?_⟩
        cases hF : F (.nd (.ins c fn) o' xs :: ds) with
        | bad => rw [hF] at q3; exact q3
        | exc x os => rw [hF] at q3; exact q3.elim
        | ok z os0 =>
          rw [hF] at q3
          intro v Hs' H' fv fo af wf rv so0
          cases os0 with
          | nil => exact q3.elim
          | cons od os =>
            dsimp only at q3
            have so : ∃ g : Fp, (∀ b, g b ≤ fo b) ∧ Sls C.toGc Hs' H' (us.map some) os g := by
              cases so0 with
              | no so => exact ⟨_, fun b => Nat.le_refl _, so⟩
              | @yes _ _ f2 _ _ g _ r2 so q4 => exact ⟨g, fun b => by have := q4 b; omega, so⟩
            obtain ⟨g, le2, so⟩ := so
            cases hp : putA as os e3 with
            | none => rw [hp] at q3; exact q3.elim
            | some e4 =>
              rw [hp] at q3
              have s4 := s3.mono (Hs' := Hs') (H' := H') af.sh fun b hb => af.keep b (.inr hb) (ok2.wf.own b (by have := ef b; show fe2 b + (fv1 b + fv2 b) ≠ 0; omega))
              obtain ⟨fe4, s5, le3, ex4⟩ := r2.put so s4 hp
              refine q3 v Hs' H' fe4 fv (af.weak fun b hb => .inl hb) ⟨⟨wf.sm, fun b => ?_, fun b hb => ?_, fun b hb => ?_, fun b hb => wf.live b (.inl hb)⟩, s5, ok2.pn, by rw [ex4, ex3]; exact ok2.ex.mono af.sh⟩ rv
              · have h1 := le3 b; have h2 := wf.one b; have h3 := one b; have h4 := ef b; have h5 := le2 b
                by_cases zz : fe3 b = 0
                · omega
                · have := wf.apart b (.inr zz); omega
              · have h1 := le3 b; have h5 := le2 b
                by_cases zz : fe3 b = 0
                · exact wf.own b (by omega)
                · exact (af.keep b (.inr zz) (ok2.wf.own b (by have := ef b; show fe2 b + (fv1 b + fv2 b) ≠ 0; omega))).2
              · have h1 := le3 b; have h2 := wf.apart b (.inl hb); have h4 := ef b; have h5 := le2 b
                have h3 : fe2 b + (fv1 b + fv2 b) = 0 := ok2.wf.apart b hb
                omega
    · exact q1.elim
  · exact q1.elim
theorem be_methE {k n : Nat} {f : Addr} {fd : FuncData} {ps : List Str} {Fn : List D → CR} {c0 m : Str} {Ca : Addr} {pl : Sem Bool} (hca : C.ca c0 = Ca) (c : Cls X.K Ca) (hm : Meth X.K Ca m f) (F : FnOk X.prog X.w X.K X.mg X.base (L2.CX X.prog X.w) k f fd ps (spD C.toGc n Fn)) (hr : Room k X.A)
    (hb : Binds X.K fd ps []) (tk : Takes X W) (ho : BE X C W o Fo) (ha : BA X C W (a :: es) As) (hst : starEach (a :: es) X.env = (false, eval a X.env) :: starEach es X.env) (hpl : (backTo pos (starEach es X.env)).any (·.1) = false)
    (ht : eval (.Call (.Attribute o m apos) (a :: es) [] pos) X.env = (do
      let ov ← eval o X.env
      standAt apos.atName
      let (f, first) ← holding [ov] (getMethod ov m pl)
      callWith pos f first (backTo pos (starEach (a :: es) X.env)) (backToKw pos (keywordEach [] X.env)))) :
    BE X C W (.Call (.Attribute o m apos) (a :: es) [] pos) (eMethE c0 m n Fn Fo As) :=
  (pe_methE ho c hm F hr hb (E := WE W) (fun σ => passAt tk σ) ha hst hpl ht).imp fun σ H Q h => by rw [← hca]; exact methE_read h
end
end Bx

set_option Elab.async false
set_option linter.all false
set_option maxRecDepth 100000
set_option maxHeartbeats 1000000
/-! enumerate of a tuple. -/
namespace Bx
open PySem L2
open AutoSeq1 (wpAny_loadPart')
/-- enumerate(v), told by how v's own iterator begins; what the class's maker does is left to the library's walk -/
theorem enum_of {q : Addr} {o : Obj} {Hv : Heap → Prop} {oq : Obj} (B : Begins (.ref q) o Hv) : Meets (Builtin.«enumerate.__new__» ⟨[.type "enumerate", .ref q], []⟩) fun _ R z => (Hv z.heap ∧ z.heap.get? q = some oq) ∧
    R (.ok (.ret (.ref (z.heap.push o).objs.size))) { z with heap := (z.heap.push o).push { cls := .type "enumerate", data := .fields #[.none, .bool false, .ref z.heap.objs.size, rawInt 0, .none, .none] } } :=
  .of_wp fun prog w A R ⟨hp, gs, dr, tk, os⟩ ⟨⟨hv, hq⟩, done⟩ => by
    have known := sub_enumerate
    have fin : ∀ {A' : Around} {E Q : Value → Shared → Prop}, Q (.ref hp.objs.size) ⟨hp.push o, gs, dr, tk, os⟩ → wpAny (model prog w) A' (pyIter (.ref q)) Q E ⟨hp, gs, dr, tk, os⟩ := fun k => B.iter prog w _ _ _ _ hv k
    wp_walk using wpAny_loadPart' hq
    apply wpAny_stack_any
    intro frames
    apply wpAny_pure
    split <;> first
      | (wp_walk using wpAny_loadPart' hq, fin; exact ⟨_, rfl, done⟩)
      | (rename_i c _ _ _ _ _; rcases (c == Value.type "enumerate") <;> (wp_walk using wpAny_loadPart' hq, fin; exact ⟨_, rfl, done⟩))
/-- the numbered walk of a tuple, as the hand layer wants one -/
def Itq (K : PySem.W.Frag) (q : Addr) : It where
  go i H := ∃ ys y, SqT K H q ys ∧ ys[i]? = some y
  yld i H v H' := ∃ T y, v = V.ref T ∧ H T = none ∧ H' = upd H T (.tup [.int (i : Nat), y]) ∧ ∀ ys, SqT K H q ys → ys[i]? = some y
  stop i H := ∃ ys, SqT K H q ys ∧ ys.length ≤ i
/-- where the two iterators stand -/
def AtQ (q e it : Addr) (i : Nat) (h : Heap) : Prop := (∃ old, IsEnum h e it i old) ∧ h.IsTupleIter it q i
section
variable {q e it : Addr}
theorem vals_nth : ∀ {xs : List V} {us : List Value} {i : Nat} {x : V}, Vals xs us → xs[i]? = some x → ∃ u, us[i]? = some u ∧ RelV x u
  | _ :: _, _ :: _, 0, _, .cons r _, h => ⟨_, rfl, Option.some.inj h ▸ r⟩
  | _ :: _, _ :: _, i + 1, _, .cons _ t, h => by simpa using vals_nth (i := i) t (by simpa using h)
theorem apart_q {h : Heap} {c : Int} {old : Value} {ys : Array Value} (o1 : IsEnum h e it c old) (tup : h.IsTuple q ys) : e ≠ q := by
  rintro rfl
  obtain ⟨o, o2, o3, _⟩ := tup
  have both : some o = some _ := o2.symm.trans o1
  rw [Option.some.inj both] at o3
  simp at o3
theorem one_reading {X : Cx} {pins : List (Addr × Obj)} {σ : L2.St} {H : Hp} {s : Shared} {xs ys : List V} (I : Inv X pins σ H s) (a : SqT X.K H q xs) (b : SqT X.K H q ys) : xs = ys := by
  obtain ⟨us, va, ⟨o, o1, _, _, o2⟩, _⟩ := I.tuple a
  obtain ⟨vs, vb, ⟨o', p1, _, _, p2⟩, _⟩ := I.tuple b
  cases Option.some.inj (o1.symm.trans p1)
  rw [o2] at p2
  injection p2 with z
  exact va.inj ((List.toArray_inj z) ▸ vb)
theorem turnQ {P : Program} {w : World} {K : PySem.W.Frag} {elts : List Expr} {kk : Nat} {tp : Pos} (ne : e ≠ it) (nq : q ≠ it) : Turn P w K (.Tuple elts kk tp) (Itq K q) [e, it] e (AtQ q e it) where
  mem := List.mem_cons_self
  obj i h st b hb := by
    obtain ⟨⟨_, o1⟩, o, o2, _, o3⟩ := st
    simp only [List.mem_cons, List.not_mem_nil, or_false] at hb
    rcases hb with rfl | rfl
    · exact ⟨_, o1, fun v z => nomatch z⟩
    · exact ⟨o, o2, fun v z => nomatch o3.symm.trans z⟩
  keep i h h' st k := ⟨st.1.imp fun _ o1 => k e (by simp) _ o1, st.2.at fun o o1 => k it (by simp) o o1⟩
  item := by
    rintro X rfl rfl rfl calm i pins s σ H E I own st ⟨ys, y, sq, hy⟩
    obtain ⟨us, vals, tup, _⟩ := I.tuple sq
    obtain ⟨u, hu, ru⟩ := vals_nth vals hy
    have nqe := st.1.elim fun _ o1 => apart_q o1 tup
    have lib := GoesN.ofWalksT (elts := elts) (k := kk) (pos := tp) (WalksT.enumerateD (prog := X.prog) (w := X.w) (A := X.A) (Draws.tuple (A := X.A.in1) (I.ok.hd calm) it q nq us.toArray) e ne (by simp [ne, nqe]) (by simp))
    apply lib.goes i s _ E (by rw [List.size_toArray]; exact (List.getElem?_eq_some_iff.mp hu).1) ⟨st.1, st.2, tup⟩
    rintro _ h' tk ⟨T, _, rfl, low, ⟨n, u', hu', rfl⟩, new⟩ ⟨st1, st2, _⟩ rest -
    have same : u' = u := by
      have a : us[i]? = some u' := by simpa using hu'
      exact Option.some.inj (a.symm.trans hu)
    subst same
    have fresh := I.hok.fresh low
    refine ⟨.ref T, upd H T (.tup [.int (i : Nat), y]), I.turnedNew rest own low ⟨by rw [sizeLine_eq]; simp, [.int i n, u'], .cons ⟨n, rfl⟩ (.cons ru .nil), new⟩, rfl, ⟨T, y, rfl, fresh, rfl, fun zs sz => ?_⟩, ⟨st1, st2⟩, fun b hb => ?_⟩
    · exact (one_reading I sz sq) ▸ hy
    · rw [upd_ne]
      · exact (own b hb).1
      · rintro rfl
        obtain ⟨⟨_, o1⟩, _, o2, _⟩ := st
        simp only [List.mem_cons, List.not_mem_nil, or_false] at hb
        rcases hb with rfl | rfl
        · exact absurd (Heap.lt_size o1) (Nat.not_lt.mpr low)
        · exact absurd (Heap.lt_size o2) (Nat.not_lt.mpr low)
  done := by
    rintro X rfl rfl rfl calm i pins s σ H E I own st ⟨ys, sq, le⟩
    obtain ⟨us, vals, tup, _⟩ := I.tuple sq
    obtain ⟨⟨old, o1⟩, o2⟩ := st
    -- behind the last item the tuple's iterator stops: it draws nothing at i, as at the end
    have none_left : us.toArray[i]? = none := by
      rw [List.getElem?_toArray]
      exact List.getElem?_eq_none (by rw [← vals.length]; exact le)
    have D : Draws X.prog X.w X.A.in1 it [it, q] 0 (fun _ _ => False) (fun k h => k = 0 ∧ h.IsTupleIter it q i ∧ h.IsTuple q us.toArray) :=
      { live := fun _ _ a => a.2.1.imp fun _ b => b.1, frame := fun _ _ _ a k => ⟨a.1, a.2.1.at fun o x => k it (by simp) o x, a.2.2.at fun o x => k q (by simp) o x⟩
        item := fun _ _ _ _ lt _ _ => absurd lt (Nat.not_lt_zero _), done := fun _ _ _ a k => wpAny_nextOf_tuple_end (I.ok.hd calm) a.2.1 a.2.2 none_left k }
    exact wpAny_pyNext_enum_endD D o1 ⟨rfl, o2, tup⟩ fun h' k => ⟨rfl, I.turnedL (ch := [e, it]) (t' := s.toks) (fun b o hb x => k b o (fun z => hb (by simp [z])) x) own⟩
  self A i s Q E st k := st.1.elim fun _ o1 => wpAny_pyIter_enum o1 k
def iEnumT (K : PySem.W.Frag) (ta : TA) : TI := fun σ H R => ta σ H fun vs H1 => ∃ q ys, vs = [V.ref q] ∧ SqT K H1 q ys ∧ R (Itq K q) H1
theorem pi_enumT {X : Cx} {a : Expr} {ta : TA} {p pos tp : Pos} {elts : List Expr} {kk : Nat} (hg : Gl X "enumerate") (hm : X.mg "enumerate" = none) (ha : PA X [a] ta) (hs : starEach [a] X.env = [(false, eval a X.env)]) : PI X (.Tuple elts kk tp) (.Call (.Name "enumerate" p) [a] [] pos) (iEnumT X.K ta) := by
  constructor
  intro pins s σ H R I wish
  refine PyProof.Rows.Call_ (ld_blt I hg hm PyProof.Rows.boot_enumerate (PyProof.Rows.callWith_type1 (thn (ha.run pos pins s σ H _ I wish) ?_) hs rfl))
  rintro us s1 ⟨_, H1, I1, rel, q, ys, rfl, sq, next⟩
  obtain ⟨_, rfl, rfl⟩ := rel.one
  obtain ⟨its, _, tup, _⟩ := I1.tuple sq
  obtain ⟨oq, hq, _⟩ := id tup
  have young : q < s1.heap.objs.size := Heap.lt_size hq
  refine callType_new F.called_enumerate (by decide) (F.typeCall_enumerate_1 _) (F.newCall_enumerate_1 _) (fun ob => F.args_object_init_2 ob _) F.entry_enumerate_new (enum_of (begins_tuple q its.toArray) (oq := oq)) ⟨⟨tup, hq⟩, ?_⟩
  generalize ei : ({ cls := .type "tuple_iterator", data := .fields #[.ref q, .int 0 0] } : Obj) = oi
  have n1 : (s1.heap.push oi).objs.size = s1.heap.objs.size + 1 := Heap.size_push ..
  generalize eo : ({ cls := .type "enumerate", data := .fields #[.none, .bool false, .ref s1.heap.objs.size, rawInt 0, .none, .none] } : Obj) = oe
  have at1 : ((s1.heap.push oi).push oe).get? s1.heap.objs.size = some oi := Heap.get?_push_of_some _ (Heap.get?_push_size _ (ei ▸ rfl))
  have at2 : ((s1.heap.push oi).push oe).get? (s1.heap.objs.size + 1) = some oe := n1 ▸ Heap.get?_push_size _ (eo ▸ rfl)
  have en : IsEnum ((s1.heap.push oi).push oe) (s1.heap.objs.size + 1) s1.heap.objs.size 0 .none := by rw [← eo] at at2 ⊢; exact at2
  rw [n1]
  refine ⟨⟨_, at2, by rw [← eo]⟩, wpAny_pyIter_enum (s := { s1 with heap := (s1.heap.push oi).push oe }) en ?_⟩
  refine ⟨s1.heap.objs.size + 1, _, _, Itq X.K q, H1, rfl, I1.kept (t' := s1.toks) fun b u x => Heap.get?_push_of_some _ (Heap.get?_push_of_some _ x), turnQ (Nat.succ_ne_self _) (Nat.ne_of_lt young), ⟨⟨_, en⟩, oi, at1, by rw [← ei], by rw [← ei]; rfl⟩, fun b hb => ?_, next⟩
  have old : s1.heap.objs.size ≤ b := by
    rcases List.mem_cons.mp hb with z | z
    · exact z ▸ Nat.le_succ _
    · exact (List.mem_singleton.mp z) ▸ Nat.le_refl _
  exact I1.fpOk old (I1.hok.fresh old)
end
theorem jok_enumT {G : Gc} {Hs : Hp} {p : Addr} {vs : List V} {xs : List D} {L : Hp → Prop} (h : ∀ Hs2 H2, Same Hs Hs2 → Sm Hs2 H2 → SqT G.K H2 p vs) (rs : ∀ Hs2 H2, Same Hs Hs2 → Rps G Hs2 H2 vs xs f0) : JOk G (Itq G.K p) (enumD 0 xs) Hs L := by
  refine ⟨fun Hs2 H2 s m _ => ⟨vs, h _ _ s m, by rw [enumD_len]; exact Nat.le_of_eq (rs Hs2 H2 s).len⟩, fun Hs2 H2 i d s m _ e => ?_, fun Hs2 H2 i d x H' s m _ e y => ?_⟩
  · rw [enumD_get] at e
    obtain ⟨x, hx, _⟩ := Option.map_eq_some_iff.mp e
    obtain ⟨v, hv, _⟩ := (rs Hs2 H2 s).at hx
    exact ⟨vs, v, h _ _ s m, hv⟩
  · rw [enumD_get] at e
    obtain ⟨z, hz, rfl⟩ := Option.map_eq_some_iff.mp e
    obtain ⟨T, w, rfl, nT, rfl, k⟩ := y
    obtain ⟨v, hv, rv⟩ := (rs Hs2 H2 s).at hz
    have := k vs (h _ _ s m)
    rw [hv] at this; cases this
    refine ⟨_, New.mkS m nT, newTup m nT ?_⟩
    rw [Nat.zero_add]
    exact .cons (r_int _) (.cons rv (.nil (f := f0) fun _ => rfl) fun _ => rfl) fun _ => rfl
/-- enumerate of a tuple -/
def iEnT (as : FA) : FI := fun e => (as e).bind fun as e1 => .opt ((dvs as).bind fun ds => match frzs ds with
  | [d] => (match d.seq with
    | some (false, xs) => some (enumD 0 xs)
    | _ => none)
  | _ => none) e1
theorem bi_enumT {X : Cx} {C : Cc} {W : WX} {a : Expr} {As : FA} {p ppos tpos : Pos} {elts : List Expr} {kk : Nat} (hk : X.K = C.K) (hg : Gl X "enumerate") (hm : X.mg "enumerate" = none) (ha : BA X C W [a] As) (h1 : starEach [a] X.env = [(false, eval a X.env)]) :
    BI X C W (.Tuple elts kk tpos) (.Call (.Name "enumerate" p) [a] [] ppos) (iEnT As) :=
  (pi_enumT hg hm ha h1).imp fun σ H R ⟨e, Hs, fe, P, ok, q⟩ => by
    refine firstA ok (EndI.bind q) fun as e1 vs Hs1 H1 fe1 fv1 a1 ok1 r1 ⟨_, q1⟩ => ?_
    cases h : ((dvs as).bind fun ds => match frzs ds with
      | [d] => (match d.seq with
        | some (false, xs) => some (enumD 0 xs)
        | _ => none)
      | _ => none) with
    | none => rw [h] at q1; exact q1.elim
    | some z =>
      rw [h] at q1
      obtain ⟨ds, h1, h2⟩ := Option.bind_eq_some_iff.mp h
      obtain ⟨Hs3, a3, ok3, r3⟩ := ok1.freezes (r1.vals h1)
      have q3 := q1.shift (a1.trans a3)
      split at h2
      · rename_i d hd
        split at h2
        · rename_i xs hs
          cases h2
          rw [hd] at r3
          obtain ⟨v, rfl, rv⟩ := r3.one
          obtain ⟨p, ws, rfl, _, hT, rs⟩ := rp_seqS rv hs
          obtain ⟨j1, j2⟩ := jok_seqT (hT rfl) rs
          refine ⟨p, ws, rfl, by rw [hk]; exact j1 _ _ (Same.refl _) ok3.sm, q3 _ Hs3 H1 fe1 _ (fun _ h => h) (Aft.refl _ _ _) ok3 ?_⟩
          rw [hk]
          exact jok_enumT (G := C.toGc) j1 j2
        · cases h2
      · cases h2
end Bx

set_option Elab.async false
set_option linter.all false
set_option maxRecDepth 100000
set_option maxHeartbeats 1000000
/-! Several clauses of one try, each with the same name behind `as`.
A caught exception is a structure (Caught); three lemmas tell what may be done with one: it flies on, a clause's suite ends, a clause is asked. The clauses' list is then a plain induction. -/
namespace L2
open PySem PySem.Spec PyProof.Rows
abbrev Cl := Value × (Addr → Value → Option Addr → TS)
/-- the ends of a suite: the name is gone -/
def Ends.bare (Dn : Ends) (j : Nat) : Ends := ⟨fun st hp => Dn.nx (st.set j none) hp, Dn.rt, fun st hp => Dn.bk (st.set j none) hp, fun st hp => Dn.ct (st.set j none) hp⟩
def wCl (Kf : PySem.W.Frag) (j : Nat) (Wo : WX) (Dn : Ends) : List Cl → WX
  | [] => Wo
  | q :: rest => fun cv dv st hp => ∃ yes, PySem.W.exmOne Kf cv q.1 = some yes ∧ match yes with | true => ∀ ad, hp ad = none → q.2 ad cv dv (Dn.bare j) (st.set j (some (.ref ad))) hp | false => wCl Kf j Wo Dn rest cv dv st hp
/-- ad is caught in the frame of Y, as the state t stands; was: the state it left behind -/
structure Caught (Y : Cx) (pins : List (Addr × Obj)) (ad : Addr) (gr : Heap) (was : Shared) (st : St) (hp : Hp) (cv : Value) (dv : Option Addr) (t : Shared) : Prop where
  old : Inv Y pins st hp was
  low : ∀ b o, was.heap.get? b = some o → b ∉ frs Y.stack → gr.get? b = some o
  grown : was.heap.UpToSlots t.heap
  fly : HandSPX.FlyingZ gr (Y.env :: Y.outer) ad (Zc cv dv) t.heap
  free : hp ad = none
  world : t.os = was.os ∧ AllBare t.gens
namespace Caught
variable {Y : Cx} {pins : List (Addr × Obj)} {ad : Addr} {gr : Heap} {was t : Shared} {st : St} {hp : Hp} {cv : Value} {dv : Option Addr}
theorem inv (c : Caught Y pins ad gr was st hp cv dv t) : Inv Y pins st hp t := c.old.landed c.low c.fly.1 c.grown c.world.1 c.world.2
theorem step (c : Caught Y pins ad gr was st hp cv dv t) {g : Heap} (f : HandSPX.FlyingZ gr (Y.env :: Y.outer) ad (Zc cv dv) g) (u : t.heap.UpToSlots g) : Caught Y pins ad gr was st hp cv dv { t with heap := g } :=
  { c with grown := c.grown.trans u, fly := f }
/-- it is no frame's object -/
theorem apart (c : Caught Y pins ad gr was st hp cv dv t) : ∀ e ∈ Y.env :: Y.outer, e.frame ≠ some ad := by
  intro e me ef
  obtain ⟨ob, fv, o1, _, o2⟩ := c.fly.there
  have m := c.fly.2.2.1.mem (List.mem_filterMap.mpr ⟨e, me, ef⟩)
  exact m.2.elim fun o3 h => h.2 fv (by rw [o1] at h; exact (Option.some.inj h.1) ▸ o2)
variable {n : Str} {j : Nat}
theorem inSuite (c : Caught Y pins ad gr was st hp cv dv t) (own : Y.env.frame = some Y.env.locals) :
    ∃ ob, Zc cv dv ob ∧ (∃ fv, ob.data = .fields fv) ∧ t.heap.get? ad = some ob ∧ Inv (Y.suite ad ((ad, ob) :: (Y.pn ++ pins))) [] st hp t := by
  obtain ⟨ob, fv, o1, o2, o3⟩ := c.fly.there
  have ap := c.apart
  refine ⟨ob, o2, ⟨fv, o3⟩, o1, c.inv.suite o1 o3 c.free (fun z => ap _ List.mem_cons_self (z ▸ own)) fun m => ?_⟩
  have ⟨e, me, ef⟩ := List.mem_filterMap.mp m
  exact ap e (List.mem_cons_of_mem _ me) ef
end Caught
section
variable {Y : Cx} {pins : List (Addr × Obj)} {ad : Addr} {gr : Heap} {was t : Shared} {st : St} {hp : Hp} {cv : Value} {dv : Option Addr} {Dn : Ends} {Wo : WX} {n : Str} {j : Nat}
/-- what handling it is to reach -/
abbrev Done (Y : Cx) (pins : List (Addr × Obj)) (ad : Addr) (Dn : Ends) (hs : List ExceptHandler) (t : Shared) : Prop := wpAny (model Y.prog Y.w) Y.A (handleBy (.ref ad) Y.env hs) (SP Y pins Dn) Y.xe t
theorem done_none (stk : Y.stack = Y.env :: Y.outer) (own : Y.env.frame = some Y.env.locals) (tk : Takes Y Wo) (c : Caught Y pins ad gr was st hp cv dv t) (w : Wo cv dv st hp) : Done Y pins ad Dn [] t := by
  have up : ∀ g, HandSPX.HeldZ gr (Y.env :: Y.outer) ad (Zc cv dv) Y.env.locals g → t.heap.UpToSlots g → Y.xe (.ref ad) { t with heap := g } := fun g held u =>
    tk _ _ ⟨ad, gr, was, pins, st, hp, cv, dv, rfl, c.old, c.low, c.grown.trans u, .inr (.inr (stk ▸ held)), c.free, c.world.1, c.world.2, w⟩
  obtain ⟨_, _, _, ob, fv, T, _, _, o1, _, o2, o3, _⟩ := id c.fly
  apply wpAny_handleBy_nil
  unfold PySem.passOn
  apply wpAny_bind
  apply wpAny_field o1 o2 o3
  have go : wpAny (model Y.prog Y.w) Y.A (setFlight (.ref ad) Y.env.frame) (fun _ t' => wpAny (model Y.prog Y.w) Y.A (throw (.ref ad) : Sem Flow) (SP Y pins Dn) Y.xe t') Y.xe t := own ▸ HandSPX.setFlight_upZ c.fly fun g held u => wpAny_throw (up g held u)
  simp only [show (Value.ref T == Value.none) = false from rfl, Bool.false_eq_true, if_false]
  first | exact wpAny_bind go | exact wpAny_bind (wpAny_pure (wpAny_bind go))
theorem done_one {x : Str} {cx : Value} {ts : Addr → Value → Option Addr → TS} {b0 : Stmt} {bs : List Stmt} {p1 p2 : Pos} {more : List ExceptHandler} {yes : Bool} (own : Y.env.frame = some Y.env.locals) (nd : Y.N.Nodup) (at_ : Y.N[j]? = some n) (loc : Y.env.kindOf n = some .local) (hx : Names Y x cx)
    (body : ∀ ob pn, Zc cv dv ob → (∃ fv, ob.data = .fields fv) → PSs (Y.suite ad ((ad, ob) :: pn)) (b0 :: bs) (ts ad cv dv)) (c : Caught Y pins ad gr was st hp cv dv t) (e : PySem.W.exmOne Y.K cv cx = some yes)
    (w : match yes with | true => ts ad cv dv (Dn.bare j) (st.set j (some (.ref ad))) hp | false => Done Y pins ad Dn more t) : Done Y pins ad Dn (.ExceptHandler (some (.Name x p1)) (some n) (b0 :: bs) p2 :: more) t := by
  obtain ⟨ob, z, _, o1, I⟩ := c.inSuite own
  apply wpAny_handleBy_cons _ (by intro q; cases q)
  apply codeAny_handlers_test
  have ask := PySem.W.exm_one (M := model Y.prog Y.w) c.inv.kIn (e := ad) (fun A Q E s k q => wpAny_typeOf_ref (k _ _ o1) (z.1.symm ▸ q)) e
  have named : ∀ {Q0 E0 : Value → Shared → Prop}, Q0 cx t → wpAny (model Y.prog Y.w) (Y.A.mark (some (.ref ad))) (eval (.Name x p1) Y.env) Q0 E0 t := fun {Q0 E0} q => match hx with
    | ⟨g, d, .inl m⟩ => ld_glob (X := Y.suite ad ((ad, ob) :: (Y.pn ++ pins))) I g m q d
    | ⟨g, d, .inr ⟨m, v, nn⟩⟩ => ld_blt (X := Y.suite ad ((ad, ob) :: (Y.pn ++ pins))) I g m v q nn d
  apply named
  apply ask.here
  rcases yes with _ | _
  · exact w
  show codeAny _ _ _ _ _
  apply codeAny_handlers_suite_as
  apply HandSPX.lands_againZ c.fly
  intro g f u
  have c2 := c.step f u
  obtain ⟨ob2, z2, d2, _, I2⟩ := c2.inSuite own
  refine store_ok (X := Y.suite ad ((ad, ob2) :: (Y.pn ++ pins))) (v := .ref ad) (u := .ref ad) I2 nd at_ (.inl loc) rfl ?_ (.inr loc)
  intro t3 I3
  have clean : ∀ {st' : St} {hp' : Hp} {t' : Shared} {R : Shared → Prop}, Inv (Y.suite ad ((ad, ob2) :: (Y.pn ++ pins))) [] st' hp' t' → (∀ t'', Inv Y pins (st'.set j none) hp' t'' → R t'') → wpAny (model Y.prog Y.w) Y.A (do bindName Y.env n .none; unbindBehindTheSuite Y.env n p2) (fun _ t'' => R t'') Y.xe t' :=
    fun I' r => gone_ok (I'.unsuite c.old.ok) nd at_ loc r
  apply wpAny_mono ((body ob2 _ z2 d2).run [] t3 _ hp _ I3 w) _ fun _ _ no => False.elim no
  rintro (_ | _ | _ | v) t4 h
  all_goals first
    | (obtain ⟨_, _, I4, q⟩ := h; exact clean I4 fun t5 I5 => ⟨_, _, I5, q⟩)
    | (obtain ⟨_, _, _, I4, r, q⟩ := h; exact clean I4 fun t5 I5 => ⟨_, _, _, I5, r, q⟩)
inductive ClOk (Y : Cx) (n : Str) : List ExceptHandler → List Cl → Prop
  | nil : ClOk Y n [] []
  | cons {x : Str} {cx : Value} {ts : Addr → Value → Option Addr → TS} {b0 : Stmt} {bs : List Stmt} {p1 p2 : Pos} {hs : List ExceptHandler} {qs : List Cl} : Names Y x cx →
      (∀ ad ob cv dv pn, Zc cv dv ob → (∃ fv, ob.data = .fields fv) → PSs (Y.suite ad ((ad, ob) :: pn)) (b0 :: bs) (ts ad cv dv)) → ClOk Y n hs qs → ClOk Y n (.ExceptHandler (some (.Name x p1)) (some n) (b0 :: bs) p2 :: hs) ((cx, ts) :: qs)
theorem done_all (stk : Y.stack = Y.env :: Y.outer) (own : Y.env.frame = some Y.env.locals) (nd : Y.N.Nodup) (at_ : Y.N[j]? = some n) (loc : Y.env.kindOf n = some .local) (tk : Takes Y Wo) (c : Caught Y pins ad gr was st hp cv dv t) :
    ∀ {hs : List ExceptHandler} {qs : List Cl}, ClOk Y n hs qs → wCl Y.K j Wo Dn qs cv dv st hp → Done Y pins ad Dn hs t
  | _, _, .nil, w => done_none stk own tk c w
  | _, _, .cons hx body more, ⟨yes, e, w⟩ => done_one own nd at_ loc hx (fun ob pn => body ad ob cv dv pn) c e (by
      cases yes with
      | true => exact w ad c.free
      | false => exact done_all stk own nd at_ loc tk c more w)
theorem ps_tryL {bd : List Stmt} {h0 : ExceptHandler} {hs : List ExceptHandler} {qs : List Cl} {pos : Pos} {tb : WX → TS} (stk : Y.stack = Y.env :: Y.outer) (own : Y.env.frame = some Y.env.locals) (nd : Y.N.Nodup) (at_ : Y.N[j]? = some n) (loc : Y.env.kindOf n = some .local) (tk : Takes Y Wo)
    (hb : ∀ W pn xe, Takes (Y.tr pn xe) W → PassesOwn (model Y.prog Y.w) Y.A Y.env xe → PSs (Y.tr pn xe) bd (tb W)) (cl : ClOk Y n (h0 :: hs) qs) : PS Y (.Try bd (h0 :: hs) [] [] pos) fun Dn st hp => tb (wCl Y.K j Wo Dn qs) Dn st hp := by
  constructor
  intro pins t0 st hp Dn I0 w0
  apply wpAny_Try_except
  have catch_ : Takes (Y.tr (Y.pn ++ pins) fun e t1 => wpAny (model Y.prog Y.w) Y.A (noteFrame e Y.env) (fun _ t2 => wpAny (model Y.prog Y.w) Y.A (setFlight e none) (fun _ t3 => wpAny (model Y.prog Y.w) Y.A (handleBy e Y.env (h0 :: hs)) (SP Y pins Dn) Y.xe t3) Y.xe t2) Y.xe t1) (wCl Y.K j Wo Dn qs) := by
    rintro _ t1 ⟨ad, gr, was, _, st1, hp1, cv, dv, rfl, I1, low, grown, sky, free, os, gens, w⟩
    apply Sky.land Zc.steady (I0.ok.frames.trans (congrArg some stk)) own (stk ▸ sky)
    intro g f u
    exact done_all (t := { t1 with heap := g }) stk own nd at_ loc tk ⟨I1.ofTry I0.ok, low, grown.trans u, f, free, os, gens⟩ cl w
  apply wpAny_mono ((hb _ _ _ catch_ PassesOwn.looking).run [] t0 st hp Dn (I0.toTry _) w0) _ fun _ _ h => h
  rintro (_ | _ | _ | v) t1 h
  · obtain ⟨_, _, I1, q⟩ := h; exact wpAny_execs_nil ⟨_, _, I1.ofTry I0.ok, q⟩
  all_goals first
    | (obtain ⟨_, _, I1, q⟩ := h; exact ⟨_, _, I1.ofTry I0.ok, q⟩)
    | (obtain ⟨_, _, _, I1, r, q⟩ := h; exact ⟨_, _, _, I1.ofTry I0.ok, r, q⟩)
end
end L2
namespace Bx
open PySem L2
abbrev HF := (Str → Option Bool) × FS
def hdsF (i : Nat) : List HF → Exc → En → So
  | [], x, e1 => .exc x e1
  | q :: r, x, e1 => match q.1 x.c with
    | some true => if i < e1.sl.length then (q.2 (e1.suite i x)).calm i else .bad
    | some false => hdsF i r x e1
    | none => .bad
/-- try: body / except A as n: .. / except B as n: .. -/
def fTryL (i : Nat) (l : List HF) (body : FS) : FS := fun e => match body e with
  | .exc x e1 => hdsF i l x e1
  | r => r
inductive HdB (X : Cx) (C : Cc) (n : Str) (i : Nat) : List ExceptHandler → List HF → List Cl → Prop
  | nil : HdB X C n i [] [] []
  | cons {x : Str} {c : Value} {Ss : FS} {isA : Str → Option Bool} {b0 : Stmt} {suite : List Stmt} {np pos' : Pos} {hs : List ExceptHandler} {l : List HF} {qs : List Cl} (hc : Names X x c) (hA : ∀ c' b, isA c' = some b → PySem.W.exmOne C.K (.ref (C.ca c')) c = some b)
      (hsu : ∀ (a : Addr) (oe : Obj) (cls : Value) (d : Option Addr) (pn : List (Addr × Obj)), Zc cls d oe → (∃ vs, oe.data = .fields vs) → BSs (X.suite a ((a, oe) :: pn)) (C.su i a cls d) W0 (b0 :: suite) Ss)
      (r : HdB X C n i hs l qs) : HdB X C n i (.ExceptHandler (some (.Name x np)) (some n) (b0 :: suite) pos' :: hs) ((isA, Ss) :: l) ((c, fun a cls d => canS (C.su i a cls d) W0 Ss) :: qs)
section
variable {X : Cx} {C : Cc} {W : WX} {pos : Pos}
theorem HdB.clOk {n : Str} {i : Nat} {hs : List ExceptHandler} {l : List HF} {qs : List Cl} : HdB X C n i hs l qs → ClOk X n hs qs
  | .nil => .nil
  | .cons hc _ hsu r => .cons hc hsu r.clOk
/-- a suite's state, and back -/
theorem Ok.enter {Hs H : Hp} {σ : L2.St} {e : En} {fe : Fp} {P : Addr → Prop} {i : Nat} {ad dd : Addr} {x : Exc} (ok : Ok C Hs H σ e fe f0 P) (ex : ExD C.toGc Hs H dd x) (hp : npin C i) (hi : i < e.sl.length) :
    ∃ fe', Ok (C.su i ad (.ref (C.ca x.c)) (some dd)) Hs H (σ.set i (some (.ref ad))) (e.suite i x) fe' f0 P := by
  obtain ⟨fe', o⟩ := ok.del i
  refine ⟨fe', o.wf, o.sl.any List.length_set fun j d hj => List.getElem?_set_ne fun z => delL_at (e := e) (vs := [i]) (z ▸ List.mem_cons_self) d hj, ?_, ad, dd, rfl, ex⟩
  rintro p (_ | ⟨_, hm⟩)
  · exact List.getElem?_set_self (ok.sl.len ▸ hi)
  · exact (List.getElem?_set_ne (Ne.symm (hp p hm))).trans (ok.pn p hm)
theorem Ok.leave {Hs H : Hp} {σ : L2.St} {e : En} {fe fx : Fp} {P : Addr → Prop} {i : Nat} {ad : Addr} {cl : Value} {dd : Option Addr} (ok : Ok (C.su i ad cl dd) Hs H σ e fe fx P) (hp : npin C i) : ∃ fe', Ok C Hs H (σ.set i none) (e.calm i) fe' fx P := by
  obtain ⟨fe', o⟩ := ok.del i
  exact ⟨fe', o.wf, o.sl.any List.length_set fun j d hj => List.getElem?_set_ne fun z => delL_at (e := e) (vs := [i]) (z ▸ List.mem_cons_self) d hj, fun p hm => (List.getElem?_set_ne (Ne.symm (hp p hm))).trans (ok.pn p (List.mem_cons_of_mem _ hm)), trivial⟩
theorem hds_wish {n : Str} {i : Nat} {P : Addr → Prop} {N : Ends} {Hs H : Hp} {x : Exc} {e1 : En} (hp : npin C i) (hk : X.K = C.K) : ∀ {hs : List ExceptHandler} {l : List HF} {qs : List Cl}, HdB X C n i hs l qs → EndS C W (hdsF i l x e1) Hs H P N →
    ∀ dd σ1 Hs1 H1 fe1, Aft Hs H Hs1 H1 P → Ok C Hs1 H1 σ1 e1 fe1 f0 P → ExD C.toGc Hs1 H1 dd x → wCl X.K i W N qs (.ref (C.ca x.c)) (some dd) σ1 H1
  | _, _, _, .nil, q => q
  | _, _, _, .cons (isA := isA) (Ss := Ss) hc hA hsu r, q => fun dd σ1 Hs1 H1 fe1 a1 ok1 ex1 => by
    unfold hdsF at q
    rcases hcl : isA x.c with _ | (_ | _) <;> simp only [hcl] at q
    · exact q.elim
    · exact ⟨false, hk ▸ hA _ _ hcl, hds_wish hp hk r q dd σ1 Hs1 H1 fe1 a1 ok1 ex1⟩
    · refine ⟨true, hk ▸ hA _ _ hcl, fun ad had => ?_⟩
      by_cases hi : i < e1.sl.length
      rotate_left
      · rw [if_neg hi] at q; exact q.elim
      rw [if_pos hi] at q
      obtain ⟨fe2, ok2⟩ := ok1.enter (ad := ad) ex1 hp hi
      refine ⟨_, Hs1, fe2, P, ok2, ?_⟩
      have q2 := q.shift a1
      generalize Ss (e1.suite i x) = r2 at q2 ⊢
      cases r2 with
      | bad => exact q2.elim
      | exc _ _ => exact q2.elim
      | rt d2 e2 => exact fun v σ' Hs' H' fe' fv a2 ok' rv => let ⟨fe3, ok4⟩ := ok'.leave hp; q2 v _ Hs' H' fe3 fv a2 ok4 rv
      | _ => exact fun σ' Hs' H' fe' a2 ok' => let ⟨fe3, ok4⟩ := ok'.leave hp; q2 _ Hs' H' fe3 a2 ok4
theorem bs_tryL {n : Str} {i : Nat} {body : List Stmt} {h0 : ExceptHandler} {hs : List ExceptHandler} {l : List HF} {qs : List Cl} {Sb : FS} (hst : X.stack = X.env :: X.outer) (hfr : X.env.frame = some X.env.locals) (hnd : X.N.Nodup) (hi : X.N[i]? = some n) (hln : X.env.kindOf n = some .local)
    (tk : Takes X W) (hp : npin C i) (hx : C.xa = none) (hk : X.K = C.K)
    (hb : ∀ (W' : WX) (pn : List (Addr × Obj)) (xe : Value → Shared → Prop), Takes (X.tr pn xe) W' → PassesOwn (model X.prog X.w) X.A X.env xe → BSs (X.tr pn xe) C W' body Sb)
    (hh : HdB X C n i (h0 :: hs) l qs) : BS X C W (.Try body (h0 :: hs) [] [] pos) (fTryL i l Sb) :=
  (ps_tryL hst hfr hnd hi hln tk (tb := fun W' => canS C W' Sb) hb hh.clOk).imp fun N σ H ⟨e, Hs, fe, P, ok, q⟩ => by
    refine ⟨e, Hs, fe, P, ok, ?_⟩
    unfold fTryL at q
    generalize Sb e = r at q ⊢
    cases r with
    | exc x e1 => exact hds_wish hp hk hh q
    | _ => exact q
end
theorem tryL_nx {i : Nat} {l : List HF} {b : FS} {e e1 : En} (h : b e = .nx e1) : fTryL i l b e = .nx e1 := by unfold fTryL; rw [h]
theorem tryL_rt {i : Nat} {l : List HF} {b : FS} {e e1 : En} {d : D} (h : b e = .rt d e1) : fTryL i l b e = .rt d e1 := by unfold fTryL; rw [h]
theorem tryL_exc {i : Nat} {l : List HF} {b : FS} {e e1 : En} {x : Exc} (h : b e = .exc x e1) : fTryL i l b e = hdsF i l x e1 := by unfold fTryL; rw [h]
end Bx

set_option Elab.async false
set_option linter.all false
set_option maxRecDepth 100000
set_option maxHeartbeats 1000000
/-! Walks over an owned list whose items are lent to the loop's name. -/
namespace Bx
open PySem L2
def Cc.pin (C : Cc) (j : Nat) (v : V) : Cc := ⟨C.toGc, (j, v) :: C.pins, C.xa⟩
theorem pin_npin {C : Cc} {i j : Nat} {v : V} (h : npin C i) (n : j ≠ i) : npin (C.pin j v) i := fun p hp => by
  rcases List.mem_cons.mp hp with z | z
  · rw [z]; exact n
  · exact h p z
def En.lend (e : En) (i j : Nat) (d : D) : En := (e.del i).put j d
section
variable {C : Cc} {Hs H Hs' H' : Hp} {σ σ' : L2.St} {e e' : En} {fe fe' fx : Fp} {P : Addr → Prop}
theorem setL_same {α : Type} : ∀ {xs : List α} {i : Nat} {a : α}, xs[i]? = some a → xs.set i a = xs
  | [], _, _, h => by simp at h
  | x :: xs, 0, a, h => by simp at h; subst h; rfl
  | x :: xs, i + 1, a, h => by
    rw [List.set_cons_succ, setL_same (by simpa using h)]
/-- one item of an owned list is lent to a slot; and back -/
theorem Ok.lend {i j k : Nat} {ds : List D} {d : D} {f : Fp} (okk : Ok C Hs H σ e fe f P) (hi : e.sl[i]? = some (some (.nd .lst true ds))) (hd : ds[k]? = some d) (hij : i ≠ j) (hj : j < e.sl.length) (hpi : npin C j) :
    ∃ (p : Addr) (vs : List V) (v : V) (f1 : Fp) (P1 : Addr → Prop), σ[i]? = some (some (.ref p)) ∧ H p = some (.lst vs) ∧ vs.length = ds.length ∧ vs[k]? = some v ∧ (∀ b, P b → P1 b) ∧ P1 p ∧
      Ok ((C.pin i (.ref p)).pin j v) Hs H (σ.set j (some v)) (e.lend i j d) f1 f P1 ∧
      ∀ {Hs' H' : Hp} {σ' : L2.St} {e' : En} {d' : D} {f2 f3 : Fp}, Aft Hs H Hs' H' P1 → Ok ((C.pin i (.ref p)).pin j v) Hs' H' σ' e' f2 f3 P1 → e'.sl[i]? = some none → e'.sl[j]? = some (some d') →
        ∃ f4, Ok C Hs' H' σ' ((e'.del j).put i (.nd .lst true (ds.set k d'))) f4 f3 P ∧ H' p = some (.lst vs) ∧ σ'[i]? = some (some (.ref p)) ∧ σ'[j]? = some (some v) := by
  obtain ⟨u, g1, g2, hu, ru, eg, sl1⟩ := okk.sl.get hi
  cases ru with
  | @own p _ vs _ g _ at_ w n rs e1 =>
  obtain ⟨v, h1, h2, hv, rv, eh, back⟩ := rps_lens rs hd
  obtain ⟨m1, m2, hm, sl2⟩ := sl1.forget j
  have hjl : j < σ.length := by rw [okk.sl.len]; exact hj
  have sl3 : Sls C.toGc Hs H (σ.set j (some v)) (e.lend i j d).sl (fun b => h1 b + m2 b) := by
    have := sl2.put (i := j) (h := fun b => h1 b + m2 b) (by rw [List.getElem?_set_self (by rw [List.length_set]; exact hj)]) rv fun b => rfl
    rw [List.set_set] at this
    exact this
  have tot : ∀ b, fe b = (h1 b + h2 b + if b = p then 1 else 0) + (m1 b + m2 b) := fun b => by rw [eg b, e1 b, eh b, hm b]
  have wf := okk.wf
  refine ⟨p, vs, v, fun b => h1 b + m2 b, fun b => P b ∨ b = p ∨ h2 b ≠ 0, hu, at_, rs.len, hv, fun b hb => .inl hb, .inr (.inl rfl), ⟨⟨wf.sm, fun b => ?_, fun b hb => ?_, fun b hb => ?_, fun b hb => ?_⟩, sl3, fun q hq => ?_, okk.ex⟩, ?_⟩
  · have := wf.one b; have := tot b; show h1 b + m2 b + f b ≤ 1; omega
  · refine wf.own b ?_
    have := tot b; have hb' : h1 b + m2 b + f b ≠ 0 := hb; omega
  · show h1 b + m2 b + f b = 0
    have t := tot b; have o := wf.one b
    rcases hb with hb | hb | hb
    · have := wf.apart b hb; omega
    · rw [if_pos hb] at t; omega
    · omega
  · rcases hb with hb | hb | hb
    · exact wf.live b hb
    · rw [hb]; intro z; rw [show H p = some (.lst vs) from at_] at z; cases z
    · exact (rs.live b (by rw [eh b]; omega)).1
  · rcases List.mem_cons.mp hq with z | z
    · rw [z]; show (σ.set j (some v))[j]? = _; rw [List.getElem?_set_self hjl]
    · rcases List.mem_cons.mp z with z | z
      · rw [z]; show (σ.set j (some v))[i]? = _; rw [List.getElem?_set_ne (Ne.symm hij)]; exact hu
      · rw [List.getElem?_set_ne (Ne.symm (hpi q z))]; exact okk.pn q z
  · intro Hs' H' σ' e' d' f2 f3 af ok' hi' hj'
    have pj : σ'[j]? = some (some v) := ok'.pn (j, v) List.mem_cons_self
    have pi : σ'[i]? = some (some (.ref p)) := ok'.pn (i, .ref p) (List.mem_cons_of_mem _ List.mem_cons_self)
    obtain ⟨w', k1, k2, hw, rw', ek, sl4⟩ := ok'.sl.get hj'
    rw [pj] at hw
    have : v = w' := by injection hw with hw; injection hw
    subst this
    have hp' : H' p = some (.lst vs) := (af.keep p (.inr (.inl rfl)) n).1.trans at_
    have rn : Rp C.toGc Hs' H' (.ref p) (.nd .lst true (ds.set k d')) (fun b => (k1 b + h2 b) + if b = p then 1 else 0) :=
      .own hp' rfl (af.keep p (.inr (.inl rfl)) n).2 (back af.sh (fun b hb => af.keep b (.inr (.inr hb)) (rs.live b (by rw [eh b]; omega)).2) rw') fun b => rfl
    have il : i < e'.sl.length := (List.getElem?_eq_some_iff.mp hi').1
    have sl5 := sl4.put (i := i) (h := fun b => (k1 b + h2 b + if b = p then 1 else 0) + k2 b) (by rw [List.getElem?_set_ne (Ne.symm hij)]; exact hi') rn fun b => rfl
    rw [setL_same pi] at sl5
    have wf' := ok'.wf
    refine ⟨fun b => (k1 b + h2 b + if b = p then 1 else 0) + k2 b, ⟨⟨wf'.sm, fun b => ?_, fun b hb => ?_, fun b hb => ?_, fun b hb => wf'.live b (.inl hb)⟩, sl5, fun q hq => ok'.pn q (List.mem_cons_of_mem _ (List.mem_cons_of_mem _ hq)), ok'.ex⟩, hp', pi, pj⟩
    · show (k1 b + h2 b + if b = p then 1 else 0) + k2 b + f3 b ≤ 1
      have o1 := wf'.one b; have o2 := wf.one b; have t := tot b; have t2 := ek b
      by_cases z : b = p ∨ h2 b ≠ 0
      · have := wf'.apart b (.inr z)
        omega
      · have z1 : ¬ b = p := fun y => z (.inl y)
        have z2 : h2 b = 0 := by
          by_cases y : h2 b = 0
          · exact y
          · exact absurd (.inr y) z
        rw [if_neg z1]; omega
    · have hb' : (k1 b + h2 b + if b = p then 1 else 0) + k2 b + f3 b ≠ 0 := hb
      by_cases z : b = p ∨ h2 b ≠ 0
      · refine (af.keep b (.inr z) (wf.own b ?_)).2
        have t := tot b
        rcases z with z | z
        · rw [if_pos z] at t; omega
        · omega
      · have z1 : ¬ b = p := fun y => z (.inl y)
        have z2 : h2 b = 0 := by
          by_cases y : h2 b = 0
          · exact y
          · exact absurd (.inr y) z
        rw [if_neg z1] at hb'
        have := ek b
        exact wf'.own b (by show f2 b + f3 b ≠ 0; omega)
    · show (k1 b + h2 b + if b = p then 1 else 0) + k2 b + f3 b = 0
      have a1 := wf'.apart b (.inl hb); have a2 := wf.apart b hb; have t := tot b; have := ek b
      omega
end
/-! ### for x in xs: body, each item lent to x -/
def borL (i j : Nat) (body : FS) : List D → List D → FS
  | _, [], e => .nx e
  | dn, d :: r, e => match body (e.lend i j d) with
    | .nx e1 => (match e1.sl[i]?, e1.sl[j]? with
      | some none, some (some d') => borL i j body (dn ++ [d']) r ((e1.del j).put i (.nd .lst true (dn ++ d' :: r)))
      | _, _ => .bad)
    | _ => .bad
def fForB (i j : Nat) (body : FS) : FS := fun e => match e.sl[i]? with
  | some (some (.nd .lst true ds)) => if i ≠ j ∧ j < e.sl.length then borL i j body [] ds e else .bad
  | _ => .bad
theorem putE_len (e : En) (i : Nat) (d : D) : (e.put i d).sl.length = e.sl.length := List.length_set
theorem delE_len (e : En) (i : Nat) : (e.del i).sl.length = e.sl.length := List.length_set
theorem putE_at {e : En} {i : Nat} {d : D} (h : i < e.sl.length) : (e.put i d).sl[i]? = some (some d) := List.getElem?_set_self h
theorem setL_mid {α : Type} {dn r : List α} {d d' : α} : (dn ++ d :: r).set dn.length d' = dn ++ d' :: r := by
  rw [List.set_append_right _ _ (Nat.le_refl _), Nat.sub_self]; rfl
theorem ownL_at {G : Gc} {Hs H : Hp} {u : V} {ds : List D} {f : Fp} (r : Rp G Hs H u (.nd .lst true ds) f) : ∃ p vs, u = .ref p ∧ H p = some (.lst vs) ∧ vs.length = ds.length := by
  cases r with
  | own at_ w n rs e1 => exact ⟨_, _, rfl, at_, rs.len⟩
section
variable {X : Cx} {C : Cc} {W : WX} {pos pos2 p1 p2 : Pos}
theorem bs_forB {i j : Nat} {x : Expr} {y : Str} {body : List Stmt} {S : FS} (hp : PassesOwn (model X.prog X.w) X.A X.env X.xe) (hc : X.calm = true) (hk : X.K = C.K) (hx : PE X x (tVar i)) (hg : PG X (.Name y p2) (gName j)) (hn : npin C j)
    (hb : ∀ (p : Addr) (v : V), BSs X ((C.pin i (.ref p)).pin j v) W0 body S) (hf : ∀ z, foldedSetIterable x X.env z = pure z) :
    BS X C W (.For (.Name y p2) x body [] pos) (fForB i j S) :=
  (ps_for hp hc (pi_list hx) hg (tb := fun D σ H => ∃ p v, canS ((C.pin i (.ref p)).pin j v) W0 S D σ H) ⟨fun pins s σ H D I ⟨p, v, h⟩ => (hb p v).run pins s σ H D I h⟩ hf).imp fun N σ H ⟨e, Hs, fe, P, ok, q⟩ => by
    unfold fForB at q
    split at q
    rotate_left
    · exact q.elim
    rename_i ds hds
    by_cases hij : i ≠ j ∧ j < e.sl.length
    rotate_left
    · rw [if_neg hij] at q; exact q.elim
    rw [if_pos hij] at q
    obtain ⟨u, g1, g2, hu, ru, eg, sl1⟩ := ok.sl.get hds
    obtain ⟨p, vs, rfl, hH, hvl⟩ := ownL_at ru
    refine ⟨.ref p, hu, p, rfl, ⟨vs, by rw [hk]; exact SqL.of hH⟩, fun k m σ' H' => k + m = ds.length ∧ ∃ dn e' Hs' fe', dn.length = k ∧ Aft Hs H Hs' H' P ∧ Ok C Hs' H' σ' e' fe' f0 P ∧ e'.sl[i]? = some (some (.nd .lst true (dn ++ ds.drop k))) ∧ j < e'.sl.length ∧
      σ'[i]? = some (some (.ref p)) ∧ H' p = some (.lst vs) ∧ EndS C W (borL i j S dn (ds.drop k) e') Hs' H' P N, ⟨ds.length, by omega, [], e, Hs, fe, rfl, Aft.refl _ _ _, ok, by simpa using hds, hij.2, hu, hH, q⟩, ?_⟩
    rintro k m σ' H' ⟨hm, dn, e', Hs', fe', hdn, a2, ok2, hi2, hj2, hs2, hH2, q2⟩
    by_cases hlt : k < ds.length
    · obtain ⟨d, hd⟩ : ∃ d, ds[k]? = some d := ⟨_, List.getElem?_eq_getElem hlt⟩
      have ed : ds.drop k = d :: ds.drop (k + 1) := by
        rw [List.drop_eq_getElem_cons hlt]
        rw [List.getElem?_eq_getElem hlt] at hd
        rw [Option.some.inj hd]
      rw [ed] at q2 hi2
      obtain ⟨p', vs', v, f1, P1, hu', hH', hl', hv', hP, hpp, okL, back⟩ := ok2.lend (k := k) (d := d) hi2 (by rw [← hdn, List.getElem?_append_right (Nat.le_refl _), Nat.sub_self]; rfl) hij.1 hj2 hn
      rw [hs2] at hu'
      cases hu'
      rw [hH2] at hH'
      cases hH'
      refine .inr ⟨⟨vs, v, by rw [hk]; exact SqL.of hH2, hv'⟩, fun σ'' H'' => k + 1 + (m - 1) = ds.length ∧ ∃ dn e' Hs' fe', dn.length = k + 1 ∧ Aft Hs H Hs' H'' P ∧ Ok C Hs' H'' σ'' e' fe' f0 P ∧ e'.sl[i]? = some (some (.nd .lst true (dn ++ ds.drop (k + 1)))) ∧ j < e'.sl.length ∧
        σ''[i]? = some (some (.ref p)) ∧ H'' p = some (.lst vs) ∧ EndS C W (borL i j S dn (ds.drop (k + 1)) e') Hs' H'' P N, fun σ'' H'' h => ⟨m - 1, by omega, h⟩, fun z H'' y => ?_⟩
      obtain ⟨rfl, hz⟩ := y
      have hz2 := hz vs (by rw [hk]; exact SqL.of hH2)
      rw [hv'] at hz2
      cases hz2
      refine ⟨p, v, e'.lend i j d, Hs', f1, P1, okL, ?_⟩
      unfold borL at q2
      generalize S (e'.lend i j d) = r at q2 ⊢
      cases r with
      | nx e1 =>
        intro σ7 Hs7 H7 fe7 a7 ok7
        dsimp only at q2
        split at q2
        · rename_i d' h1 h2
          obtain ⟨f4, ok8, h3, h4, h5⟩ := back a7 ok7 h1 h2
          have e5 : (dn ++ d :: ds.drop (k + 1)).set k d' = dn ++ d' :: ds.drop (k + 1) := by rw [← hdn]; exact setL_mid
          rw [e5] at ok8
          have il : i < e1.sl.length := (List.getElem?_eq_some_iff.mp h1).1
          have jl : j < e1.sl.length := (List.getElem?_eq_some_iff.mp h2).1
          refine ⟨by omega, dn ++ [d'], _, Hs7, f4, by simp [hdn], a2.trans (a7.weak hP), ok8, ?_, by rw [putE_len, delE_len]; exact jl, h4, h3, q2.shift (a7.weak hP)⟩
          rw [putE_at (by rw [delE_len]; exact il), List.append_assoc]; rfl
        · exact q2.elim
      | bad => exact q2.elim
      | ct e1 => exact q2.elim
      | bk e1 => exact q2.elim
      | rt d1 e1 => exact q2.elim
      | exc x1 e1 => exact q2.elim
    · have ei : k = ds.length := by omega
      subst ei
      rw [List.drop_length] at q2
      exact .inl ⟨⟨vs, by rw [hk]; exact SqL.of hH2, by omega⟩, q2 σ' Hs' H' fe' (Aft.refl _ _ _) ok2⟩
end
/-! ### [el for x in xs], each item lent to x -/
def lcB (i j : Nat) (el : FE) : List D → List D → List D → En → Rs (List D)
  | _, [], acc, e => .ok acc e
  | dn, d :: r, acc, e => match el (e.lend i j d) with
    | .ok y e1 => (match e1.sl[i]?, e1.sl[j]? with
      | some none, some (some d') => if acc.length < lim then lcB i j el (dn ++ [d']) r (acc ++ [y]) ((e1.del j).put i (.nd .lst true (dn ++ d' :: r))) else .bad
      | _, _ => .bad)
    | _ => .bad
def eLcB (i j : Nat) (el : FE) : FE := fun e => match e.sl[i]? with
  | some (some (.nd .lst true ds)) => if i ≠ j ∧ j < e.sl.length then (lcB i j el [] ds [] (e.del j)).bind fun acc e2 => .ok (.nd .lst true acc) e2 else .bad
  | _ => .bad
structure LbSt (C : Cc) (W : WX) (i j : Nat) (el : FE) (ds : List D) (p : Addr) (vs : List V) (σ : L2.St) (Hs1 H1 : Hp) (P : Addr → Prop) (Dd : Addr) (Z : List D → En → Prop) (k : Nat) (H : Hp) : Prop where
  ex : ∃ (dn acc : List D) (e : En) (Hs : Hp) (fe fa : Fp) (va : List V), dn.length = k ∧ Aft Hs1 H1 Hs H P ∧ Ok C Hs H (wipe σ [j]) (e.del j) fe (fun b => fa b + if b = Dd then 1 else 0) P ∧ H Dd = some (.lst va) ∧ Rps C.toGc Hs H va acc fa ∧
    (e.del j).sl[i]? = some (some (.nd .lst true (dn ++ ds.drop k))) ∧ j < e.sl.length ∧ H p = some (.lst vs) ∧ EndZ C W (lcB i j el dn (ds.drop k) acc (e.del j)) Hs H P σ Z
theorem delE_delE (e : En) (i : Nat) : (e.del i).del i = e.del i := by
  unfold En.del
  rw [List.set_set]
theorem EndZ.shift2 {α : Type} {C : Cc} {W : WX} {r : Rs α} {Hs H Hs' H' : Hp} {P : Addr → Prop} {σ : L2.St} {Z : α → En → Prop} (h : EndZ C W r Hs H P σ Z) (a : Aft Hs H Hs' H' P) : EndZ C W r Hs' H' P σ Z := by
  cases r with
  | bad => exact h
  | ok d e' => exact h
  | exc x e' => exact XcK.shift h a
theorem lb_main {C : Cc} {W : WX} {i j : Nat} {el : FE} {ds : List D} {p : Addr} {vs : List V} {σ : L2.St} {Hs1 H1 : Hp} {P : Addr → Prop} {Dd : Addr} {Z : List D → En → Prop} {QD : Hp → Prop} (hij : i ≠ j) (hv : npin C j) (hp : σ[i]? = some (some (.ref p))) (hl : vs.length = ds.length)
    (st : LbSt C W i j el ds p vs σ Hs1 H1 P Dd Z 0 H1)
    (fin : ∀ (acc : List D) (e : En) (Hs H : Hp) (fe fa : Fp) (va : List V), Aft Hs1 H1 Hs H P → Ok C Hs H (wipe σ [j]) (e.del j) fe (fun b => fa b + if b = Dd then 1 else 0) P → H Dd = some (.lst va) → Rps C.toGc Hs H va acc fa → Z acc (e.del j) → QD H) :
    ∃ Wn : Nat → Nat → Hp → Prop, (∃ m, Wn 0 m H1) ∧ ∀ k m H, Wn k m H →
      ((Itl C.K p).stop k H ∧ QD H) ∨ ((Itl C.K p).go k H ∧ ∃ Nx : Hp → Prop, (∀ H', Nx H' → ∃ m', m' < m ∧ Wn (k + 1) m' H') ∧ ∀ x H', (Itl C.K p).yld k H x H' → gName j x (wipe σ [j]) H' fun σ2 H2 => wipe σ2 [j] = wipe σ [j] ∧ tYes σ2 H2 fun b H3 =>
        if b = true then (∃ p v, canE ((C.pin i (.ref p)).pin j v) W0 el σ2 H3 fun y H4 => ∃ acc, H4 Dd = some (.lst acc) ∧ acc.length < sizeLine ∧ Nx (upd H4 Dd (.lst (acc ++ [y])))) else Nx H3) := by
  refine ⟨fun k m H => k + m = ds.length ∧ LbSt C W i j el ds p vs σ Hs1 H1 P Dd Z k H, ⟨ds.length, by omega, st⟩, ?_⟩
  rintro k m H ⟨hm, ⟨dn, acc, e, Hs, fe, fa, va, hdn, a2, ok2, hD, ra, hi2, hj2, hH2, q2⟩⟩
  by_cases hlt : k < ds.length
  · obtain ⟨d, hd⟩ : ∃ d, ds[k]? = some d := ⟨_, List.getElem?_eq_getElem hlt⟩
    have ed : ds.drop k = d :: ds.drop (k + 1) := by
      rw [List.drop_eq_getElem_cons hlt]
      rw [List.getElem?_eq_getElem hlt] at hd
      rw [Option.some.inj hd]
    rw [ed] at q2 hi2
    have hR : Held (fun Hs' H' => H' Dd = some (.lst va) ∧ Rps C.toGc Hs' H' va acc fa) (fun b => fa b + if b = Dd then 1 else 0) Hs H :=
      ⟨⟨hD, ra⟩, fun Hs' H' s k => ⟨(k Dd (by rw [if_pos rfl]; omega)).1.trans hD, ra.mono s fun b hb => k b (by omega)⟩, fun b hb => by
        by_cases z : b = Dd
        · rw [z, hD]; intro z; cases z
        · rw [if_neg z] at hb; exact (ra.live b (by omega)).1⟩
    have okH := ok2.holdR hR
    obtain ⟨p', vs', v, f1, P1, hu', hH', hl', hv', hP, hpp, okL, back⟩ := okH.lend (k := k) (d := d) hi2 (by rw [← hdn, List.getElem?_append_right (Nat.le_refl _), Nat.sub_self]; rfl) hij (by rw [delE_len]; exact hj2) hv
    have hwi : (wipe σ [j])[i]? = some (some (.ref p)) := by rw [wipe_out (by simp [hij])]; exact hp
    rw [hwi] at hu'
    cases hu'
    rw [hH2] at hH'
    cases hH'
    refine .inr ⟨⟨vs, v, SqL.of hH2, hv'⟩, fun H' => k + 1 + (m - 1) = ds.length ∧ LbSt C W i j el ds p vs σ Hs1 H1 P Dd Z (k + 1) H', fun H' h => ⟨m - 1, by omega, h⟩, fun z H' y => ?_⟩
    obtain ⟨rfl, hz⟩ := y
    have hz2 := hz vs (SqL.of hH2)
    rw [hv'] at hz2
    cases hz2
    refine ⟨by simp [wipe, List.set_set], ?_⟩
    unfold tYes
    simp only [if_true]
    refine ⟨p, v, (e.del j).lend i j d, Hs, f1, P1, okL, ?_⟩
    unfold lcB at q2
    generalize el ((e.del j).lend i j d) = r at q2 ⊢
    cases r with
    | bad => exact q2.elim
    | exc x1 e1 => exact q2.elim
    | ok y e1 =>
      intro v8 Hs8 H8 fe8 fv8 a8 ok8 r8
      dsimp only at q2
      split at q2
      rotate_left
      · exact q2.elim
      rename_i d' h1 h2
      by_cases hl : acc.length < lim
      rotate_left
      · rw [if_neg hl] at q2; exact q2.elim
      rw [if_pos hl] at q2
      obtain ⟨f4, ok9, h3, h4, h5⟩ := back a8 ok8 h1 h2
      have e5 : (dn ++ d :: ds.drop (k + 1)).set k d' = dn ++ d' :: ds.drop (k + 1) := by rw [← hdn]; exact setL_mid
      rw [e5] at ok9
      have af8 := a8.weak hP
      have hold8 := hR.on ok2 af8
      have il : i < e1.sl.length := (List.getElem?_eq_some_iff.mp h1).1
      have jl : j < e1.sl.length := (List.getElem?_eq_some_iff.mp h2).1
      refine ⟨va, hold8.1, by rw [ra.len]; exact lim_lt (Nat.le_of_lt hl), ?_⟩
      have okb : Ok C Hs8 H8 ((wipe σ [j]).set j (some v)) ((e1.del j).put i (.nd .lst true (dn ++ d' :: ds.drop (k + 1)))) f4 (fun b => (fa b + if b = Dd then 1 else 0) + fv8 b) P := ok9.back (fun b => by have := ok2.wf.one b; omega) (fun b hb => by have := ok2.wf.apart b hb; omega) (fun b hb => ok2.wf.own b (by omega)) af8
      have nD : Hs8 Dd = none := okb.wf.own Dd (by rw [if_pos rfl]; omega)
      have onD := okb.wf.one Dd
      rw [if_pos rfl] at onD
      have ne : ∀ b, (f4 b ≠ 0 ∨ fa b ≠ 0 ∨ fv8 b ≠ 0) → b ≠ Dd := fun b hb z => by subst z; omega
      have up : ∀ b, b ≠ Dd → (upd H8 Dd (.lst (va ++ [v8]))) b = H8 b := fun b hb => upd_ne hb
      have pD : p ≠ Dd := fun z => by
        rw [z] at h3 h4
        have g := okb.sl.get (i := i) (d := .nd .lst true (dn ++ d' :: ds.drop (k + 1))) (putE_at (by rw [delE_len]; exact il))
        obtain ⟨u, g1, g2, gu, gr, ge, _⟩ := g
        rw [h4] at gu
        cases gu
        cases gr with
        | own at_ w n rs ee =>
          have t1 := ge Dd; have t2 := ee Dd
          rw [if_pos rfl] at t2
          omega
      have afU : Aft Hs8 H8 Hs8 (upd H8 Dd (.lst (va ++ [v8]))) P := ⟨Same.refl _, fun b hb hn => ⟨up b fun z => by have := okb.wf.apart b hb; rw [if_pos z] at this; omega, hn⟩, fun b hb => by
        by_cases z : b = Dd
        · rw [z, upd_same] at hb; cases hb
        · rw [up b z] at hb; exact hb, fun b od u hb => (up b fun z => by rw [z] at hb; have h8 := hold8.1; rw [hb] at h8; cases h8).trans hb⟩
      have smU : Sm Hs8 (upd H8 Dd (.lst (va ++ [v8]))) := fun a u ha => by
        rw [up a fun z => by rw [z, nD] at ha; cases ha]; exact okb.wf.sm a u ha
      have keep : ∀ {f : Fp}, (∀ b, f b ≠ 0 → b ≠ Dd) → (∀ b, f b ≠ 0 → Hs8 b = none) → ∀ b, f b ≠ 0 → (upd H8 Dd (.lst (va ++ [v8]))) b = H8 b ∧ Hs8 b = none := fun h1 h2 b hb => ⟨up b (h1 b hb), h2 b hb⟩
      have okU : Ok C Hs8 (upd H8 Dd (.lst (va ++ [v8]))) ((wipe σ [j]).set j (some v)) ((e1.del j).put i (.nd .lst true (dn ++ d' :: ds.drop (k + 1)))) f4 (fun b => (fa b + fv8 b) + if b = Dd then 1 else 0) P :=
        ⟨⟨smU, fun b => by have := okb.wf.one b; omega, fun b hb => okb.wf.own b (by omega), fun b hb => by have := okb.wf.apart b hb; omega, fun b hb z => okb.wf.live b hb (afU.mono b z)⟩,
        okb.sl.mono (Same.refl _) (keep (fun b hb => ne b (.inl hb)) fun b hb => okb.wf.own b (by omega)), okb.pn, okb.ex.mono (Same.refl _)⟩
      have ee : ((e1.del j).put i (.nd .lst true (dn ++ d' :: ds.drop (k + 1)))).del j = (e1.del j).put i (.nd .lst true (dn ++ d' :: ds.drop (k + 1))) := by
        unfold En.del En.put
        simp only
        rw [List.set_comm _ _ hij, List.set_set]
      refine ⟨by omega, ⟨dn ++ [d'], acc ++ [y], (e1.del j).put i (.nd .lst true (dn ++ d' :: ds.drop (k + 1))), Hs8, f4, fun b => fa b + fv8 b, va ++ [v8], by simp [hdn], a2.trans ((af8.weak fun b hb => .inl hb).trans afU), ?_, upd_same, ?_, ?_, by rw [putE_len, delE_len]; exact jl, (up p pD).trans h3, ?_⟩⟩
      · rw [ee]
        refine okU.frame (by rw [List.length_set]) (fun q d hq => ?_) fun q hq => ?_
        · by_cases z : q = j
          · exfalso
            rw [z] at hq
            unfold En.put En.del at hq
            simp only at hq
            rw [List.getElem?_set_ne hij, List.getElem?_set_self jl] at hq
            cases hq
          · rw [List.getElem?_set_ne (Ne.symm z)]
        · rw [List.getElem?_set_ne (Ne.symm (hv q hq))]
      · exact Rps.app (hold8.2.mono (Same.refl _) (keep (fun b hb => ne b (.inr (.inl hb))) fun b hb => okb.wf.own b (by omega))) (.cons (r8.mono (Same.refl _) (keep (fun b hb => ne b (.inr (.inr hb))) fun b hb => okb.wf.own b (by omega))) (.nil (f := f0) fun _ => rfl) (h := fv8) fun b => rfl) fun b => rfl
      · rw [ee, putE_at (by rw [delE_len]; exact il), List.append_assoc]; rfl
      · rw [ee]; exact q2.shift2 ((af8.weak fun b hb => .inl hb).trans afU)
  · have ei : k = ds.length := by omega
    subst ei
    rw [List.drop_length] at q2
    exact .inl ⟨⟨vs, SqL.of hH2, by omega⟩, fin acc e Hs H fe fa va a2 ok2 hD ra q2⟩
theorem lb_read {X : Cx} {C : Cc} {W : WX} {i j : Nat} {el : FE} (hk : X.K = C.K) (hv : npin C j) {σ : L2.St} {H : Hp} {Q : VK} (h : canE C W (eLcB i j el) σ H Q) :
    tLc (iList X.K (tVar i)) (gName j) tYes (fun σ H Q => ∃ p v, canE ((C.pin i (.ref p)).pin j v) W0 el σ H Q) [j] σ H Q := by
  obtain ⟨e, Hs, fe, P, ok, q⟩ := h
  unfold eLcB at q
  split at q
  rotate_left
  · exact q.elim
  rename_i ds hds
  by_cases hij : i ≠ j ∧ j < e.sl.length
  rotate_left
  · rw [if_neg hij] at q; exact q.elim
  rw [if_pos hij] at q
  obtain ⟨u, g1, g2, hu, ru, eg, sl1⟩ := ok.sl.get hds
  obtain ⟨p, vs, rfl, hH, hvl⟩ := ownL_at ru
  refine ⟨.ref p, hu, p, rfl, ⟨vs, by rw [hk]; exact SqL.of hH⟩, fun Dd hD => ?_⟩
  obtain ⟨fe2, ok2⟩ := ok.del j
  have ok3 := Ok.wipe (vs := [j]) (fun p hp z => hv p hp (List.mem_singleton.mp z)) (show Ok C Hs H σ (Bx.delL e [j]) fe2 f0 P from ok2)
  have n := New.obj (o := .lst []) ok3.sm hD
  have ok5 : Ok C Hs (upd H Dd (.lst [])) (wipe σ [j]) (e.del j) fe2 (fun b => f0 b + if b = Dd then 1 else 0) P := ok3.new n fun b hb => absurd rfl hb
  have af : Aft Hs H Hs (upd H Dd (.lst [])) P := n.aft ok3
  have pD : p ≠ Dd := fun z => by rw [z, hD] at hH; cases hH
  rw [hk]
  refine lb_main (W := W) (el := el) (ds := ds) (vs := vs) (P := P) (Hs1 := Hs) (Z := fun acc e2 => EndE C W (.ok (.nd .lst true acc) e2) Hs (upd H Dd (.lst [])) P σ Q) hij.1 hv hu hvl ⟨[], [], e, Hs, fe2, f0, [], rfl, Aft.refl _ _ _, ok5, upd_same, .nil fun _ => rfl, ?_, hij.2, (upd_ne pD).trans hH, ?_⟩ ?_
  · show ((e.sl.set j none)[i]?) = _
    rw [List.getElem?_set_ne (Ne.symm hij.1)]
    simpa using hds
  · rw [List.drop_zero]
    have q2 := q.shift af
    cases hr : lcB i j el [] ds [] (e.del j) with
    | bad => rw [hr] at q2; exact q2
    | ok acc e2 => rw [hr] at q2; exact q2
    | exc x e2 => rw [hr] at q2; exact fun dd H2s H2 fe' b ok ex => q2 dd H2s H2 fe' b ok ex
  · intro acc e2 Hs2 H2 fe2 fa va a2 ok2 hl ra z
    refine z (.ref Dd) Hs2 H2 fe2 (fun b => fa b + if b = Dd then 1 else 0) a2 (Ok.unwipe (vs := [j]) (e := e2) (fun p hp z => hv p hp (List.mem_singleton.mp z)) ok2) ?_
    exact .own hl rfl (ok2.wf.own Dd (by rw [if_pos rfl]; omega)) ra fun b => rfl
section
variable {X : Cx} {C : Cc} {W : WX} {pos p2 : Pos} {x elt : Expr} {el : FE}
theorem bs_setLcB {i j k : Nat} {y z : Str} {py spos : Pos} {scope : Scope} (hc : X.calm = true) (hN : X.N.Nodup) (hk : X.K = C.K) (hy : X.N[k]? = some y) (hyl : X.env.scope.names.lookup y = some .local) (hp : npin C k) (hv : npin C j)
    (hsw : swapsWith (.ListComp elt [⟨.Name z p2, x, [], 0⟩] scope pos) (some (.Name y py)) spos.line X.env = pure true) (hx : PE X x (tVar i)) (ok : BlkOk X.N X.env.scope scope [(z, j)])
    (hg : ∀ (s : Shared) (H : Hp) (Ca : Addr) (cl : List (Str × Addr)) (fp : List Addr), PG (X.blk s H scope (compEnvC scope cl Ca X.env) fp) (.Name z p2) (gName j))
    (he : ∀ (p : Addr) (v : V) (s : Shared) (H : Hp) (Ca : Addr) (cl : List (Str × Addr)) (fp : List Addr), BE (X.blk s H scope (compEnvC scope cl Ca X.env) fp) ((C.pin i (.ref p)).pin j v) W0 elt el) (hf : ∀ u, foldedSetIterable x X.env u = pure u) :
    BS X C W (.Assign [.Name y py] (.ListComp elt [⟨.Name z p2, x, [], 0⟩] scope pos) spos) (fAsg (gN k) (eLcB i j el)) :=
  (ps_setLc hc hN hy hyl hsw (pi_list hx) ok hg (fun _ _ _ _ _ => pts_nil) (te := fun σ H Q => ∃ p v, canE ((C.pin i (.ref p)).pin j v) W0 el σ H Q) (fun s H Ca cl fp => ⟨fun pins s2 σ H2 Q I ⟨p, v, h⟩ => (he p v s H Ca cl fp).run pins s2 σ H2 Q I h⟩) hf).imp fun N σ H ⟨e, Hs, fe, P, ok, q⟩ => by
    refine lb_read (X := X) (W := W) hk hv (firstE ok (q.bind σ) fun d e1 v Hs1 H1 fe1 fv1 a1 ok1 r1 q1 => ?_)
    unfold gN at q1
    by_cases hi : k < e1.sl.length
    · rw [if_pos hi] at q1
      obtain ⟨fe', ok'⟩ := (ok1.fps (fun _ => rfl) (fx' := fun b => fv1 b + f0 b) fun _ => rfl).put r1 hi hp
      exact q1 _ Hs1 H1 fe' a1 ok'
    · rw [if_neg hi] at q1; exact q1.elim
end
/-! ### list(x), x looked at -/
def eListV (i : Nat) : FE := fun e => match e.sl[i]? with
  | some (some d) => (match d.seq with
    | some (_, xs) => if xs.all D.isF then .ok (.nd .lst true xs) e else .bad
    | none => .bad)
  | _ => .bad
theorem rps_isF {G : Gc} {Hs H : Hp} : ∀ {vs : List V} {xs : List D} {f : Fp}, Rps G Hs H vs xs f → xs.all D.isF = true → ∀ b, f b = 0
  | _, _, _, .nil z, _ => z
  | _, _, _, .cons r rs e, h => fun b => by
    rw [List.all_cons, Bool.and_eq_true] at h
    rw [e b, r.isF0 h.1 b, rps_isF rs h.2 b]
section
variable {X : Cx} {C : Cc} {W : WX} {a x : Expr}
theorem be_listV {i : Nat} (hk : X.K = C.K) (hp : ∀ t, PA X [a] t → PE X x (tCB (rListA X.K) t)) (ha : PE X a (tVar i)) (hst : starEach [a] X.env = [(false, eval a X.env)]) : BE X C W x (eListV i) :=
  (hp _ (pa_cons ha pa_nil hst)).imp fun σ H Q ⟨e, Hs, fe, P, ok, q⟩ => by
    unfold eListV at q
    split at q
    rotate_left
    · exact q.elim
    rename_i d hd
    cases hs : d.seq with
    | none => rw [hs] at q; exact q.elim
    | some bx =>
      obtain ⟨b, xs⟩ := bx
      rw [hs] at q
      dsimp only at q
      by_cases hF : xs.all D.isF = true
      rotate_left
      · rw [if_neg hF] at q; exact q.elim
      rw [if_pos hF] at q
      obtain ⟨v, f1, f2, e1, r1, _⟩ := ok.sl.get hd
      obtain ⟨p, ws, g, rfl, h1, h2, rs, le⟩ := r1.seq ok.sm hs
      refine ⟨.ref p, e1, p, ws, rfl, ?_, fun l hl => ?_⟩
      · rw [hk]
        cases b
        · exact .inr (h2 rfl)
        · exact .inl (h1 rfl)
      · exact resLst (G := C.toGc) ok.sm (fun v Hs5 H5 fv n rz => q v Hs5 H5 fe fv (n.aft ok) ((ok.new n fun _ h => absurd rfl h).fps (fun _ => rfl) fun _ => (Nat.zero_add _).symm) rz) (rs.fp fun b => (rps_isF rs hF b).symm) hl
end
end Bx

set_option Elab.async false
set_option linter.all false
set_option maxRecDepth 100000
set_option maxHeartbeats 1000000
/-! Dicts made and asked, a list's item taken out: readings over the hand layer's rules. -/
namespace Bx
open PySem L2
/-- {} -/
def eDk0 : FE := fun e => .ok (.nd (.dk []) true []) e
def eDt0 : FE := fun e => .ok (.nd (.dt []) true []) e
section
variable {X : Cx} {C : Cc} {W : WX} {pos apos cpos : Pos} {a b c o : Expr} {Fa Fb Fc : FE}
theorem be_dk0 : BE X C W (.Dict [] [] pos) eDk0 := pe_dnewK.imp fun σ H Q ⟨e, Hs, fe, P, ok, q⟩ p hp => by
  have n := New.obj (o := .dK []) ok.sm hp
  exact q (.ref p) Hs _ fe _ (n.aft ok) (ok.newN n) (.own (f := f0) (vs := []) ⟨⟨rfl, .nil⟩, upd_same⟩ rfl (ok.sm.live hp) (.nil fun _ => rfl) fun b => (Nat.zero_add _).symm)
theorem be_dt0 : BE X C W (.Dict [] [] pos) eDt0 := pe_dnewT.imp fun σ H Q ⟨e, Hs, fe, P, ok, q⟩ p hp => by
  have n := New.obj (o := .dT []) ok.sm hp
  exact q (.ref p) Hs _ fe _ (n.aft ok) (ok.newN n) (.own (f := f0) (vs := []) ⟨⟨rfl, .nil⟩, upd_same⟩ rfl (ok.sm.live hp) (.nil fun _ => rfl) fun b => (Nat.zero_add _).symm)
end
/-! ### d.get(y, z): the dict is looked at and stays frozen -/
def getD' (d y z : D) : Option D := match d with
  | .nd (.dk ks) _ xs => (keyD y).bind fun k => match kpos ks k with
    | some j => xs[j]?
    | none => some z
  | _ => none
def isDkB : D → Bool
  | .nd (.dk _) _ _ => true
  | _ => false
def eGet2 (a b c : FE) : FE := fun e => (a e).bind fun d e1 => if isDkB d then (b e1).bind fun y e2 => (c e2).bind fun z e3 => .opt (getD' (frz d) (frz y) z) e3 else .bad
section
variable {X : Cx} {C : Cc} {W : WX} {apos cpos : Pos} {a b c : Expr} {Fa Fb Fc : FE}
theorem be_get2 (hu : X.A.units + 64 < cLine) (ha : BE X C W a Fa) (hb : BE X C W b Fb) (hc : BE X C W c Fc) (m : M2 X a "get" apos b c cpos) : BE X C W (.Call (.Attribute a "get" apos) [b, c] [] cpos) (eGet2 Fa Fb Fc) :=
  (pe_dget2 (by omega) ha hb hc m).imp fun σ H Q ⟨e, Hs, fe, P, ok, q⟩ => by
    refine firstE ok q.bind fun d e1 v Hs1 H1 fe1 fv1 a1 ok1 r1 q1 => ?_
    have q1 := q1.shift a1
    obtain ⟨Hs2, a2, ok2, r2, _⟩ := (ok1.fps (fun _ => rfl) (fx' := fun b => fv1 b + f0 b) fun _ => rfl).freeze r1
    cases d with
    | nd k0 od xs0 =>
      cases k0 with
      | dk ks =>
        simp only [isDkB, if_true] at q1
        have q2 := q1.shift a2
        rw [frz] at r2 q2
        cases r2 with
        | @sh p _ vs _ _ at_ rs zf =>
        have rd : ∀ {Hs' H' : Hp}, Same Hs2 Hs' → Sm Hs' H' → Rd H' p (.dK (ks.zip vs)) := fun s m => m.rd (s _ _ at_.2)
        refine ⟨p, rfl, .inl ⟨_, rd (Same.refl _) ok2.sm⟩, ?_⟩
        refine firstE ok2 q2.bind fun y e3 w Hs3 H3 fe3 fv3 a3 ok3 r3 q3 => ?_
        obtain ⟨Hs4, a4, ok4, r4, _⟩ := (ok3.fps (fun _ => rfl) (fx' := fun b => fv3 b + f0 b) fun _ => rfl).freeze r3
        refine firstE ok4 ((q3.shift a3).shift a4).bind fun z e5 u Hs5 H5 fe5 fv5 a5 ok5 r5 q5 => ?_
        have sm := (a3.sh.trans a4.sh).trans a5.sh
        cases hg : getD' (.nd (.dk ks) false (frzs xs0)) (frz y) z with
        | none => rw [hg] at q5; exact q5.elim
        | some g =>
          rw [hg] at q5
          unfold getD' at hg
          obtain ⟨key, hk, hg2⟩ := Option.bind_eq_some_iff.mp hg
          have ew := keyD_rp r4 hk
          have dg : DGet H5 p w ((kpos ks key).bind (vs[·]?)) := .inl ⟨_, key, rd sm ok5.sm, ew, (valV_kpos at_.1.1).symm⟩
          refine ⟨_, dg, ?_⟩
          cases hp : kpos ks key with
          | none =>
            rw [hp] at hg2
            cases hg2
            exact q5 u Hs5 H5 fe5 fv5 a5 ok5 r5
          | some j =>
            rw [hp] at hg2
            obtain ⟨v', hv', rv'⟩ := (rs.mono (H' := H5) sm fun b hb => absurd (zf b) hb).at (hg2 : (frzs xs0)[j]? = some g)
            rw [Option.bind_some, hv', Option.getD_some]
            exact q5 v' Hs5 H5 fe5 f0 a5 (ok5.less fun _ => Nat.zero_le _) (rv'.fp fun b => (zf b).symm)
      | _ => exact q1.elim
    | _ => exact q1.elim
end
/-! ### x.pop(i), x a slot's own list -/
def popD (d : D) (xs : List D) : Option (D × List D) := match d with
  | .int k => if k.natAbs < 2 ^ 62 then (seqIndex? k xs.length).bind fun j => (xs[j]?).map fun x => (x, xs.eraseIdx j) else none
  | _ => none
def ePopN (i : Nat) (a : FE) : FE := fun e => if (e.ownL i).isSome then (a e).bind fun d e1 => (match (e1.ownL i).bind (popD d) with
  | some q => .ok q.1 (e1.put i (.nd .lst true q.2))
  | none => .bad) else .bad
theorem rps_erase {G : Gc} {Hs H : Hp} : ∀ {vs : List V} {ds : List D} {f : Fp} {j : Nat} {d : D}, Rps G Hs H vs ds f → ds[j]? = some d →
    ∃ v f1 f2, vs[j]? = some v ∧ Rp G Hs H v d f1 ∧ Rps G Hs H (vs.eraseIdx j) (ds.eraseIdx j) f2 ∧ ∀ b, f b = f1 b + f2 b
  | _, _, _, _, _, .nil _, h => by simp at h
  | _, _, _, 0, _, .cons r rs e, h => ⟨_, _, _, rfl, Option.some.inj (by simpa using h) ▸ r, rs, e⟩
  | _, _, _, j + 1, _, .cons (f := g) r rs e, h => by
    obtain ⟨v, f1, f2, h1, h2, h3, h4⟩ := rps_erase (j := j) rs (by simpa using h)
    exact ⟨v, f1, fun b => g b + f2 b, by simpa using h1, h2, .cons r h3 fun _ => rfl, fun b => by rw [e b, h4 b]; show _ = f1 b + (g b + f2 b); omega⟩
section
variable {X : Cx} {C : Cc} {W : WX} {a : Expr} {Fa : FE}
theorem be_popN {i : Nat} {e : Expr} (hp : ∀ t, PA X [a] t → PE X e (tBM X.K "list" rPopAt (tVar i) t)) (ha : PA X [a] (tCons (canE C W Fa) tNil)) : BE X C W e (ePopN i Fa) :=
  (hp _ ha).imp fun σ H Q ⟨e, Hs, fe, P, ok, q⟩ => by
    unfold ePopN at q
    by_cases own : (e.ownL i).isSome
    rotate_left
    · rw [if_neg own] at q; exact q.elim
    rw [if_pos own] at q
    obtain ⟨xs0, own⟩ := Option.isSome_iff_exists.mp own
    obtain ⟨_, _, _, hv, rp0, _⟩ := ok.slot (En.ownL_some own)
    obtain ⟨p, vs0, rfl, hH, _⟩ := ownL_at rp0
    refine ⟨.ref p, hv, .inl ⟨rfl, vs0, SqL.of hH⟩, firstE ok (EndE.bind q) fun d e1 v Hs1 H1 fe1 fv1 a1 ok1 r1 q1 => ?_⟩
    cases take : (e1.ownL i).bind (popD d) with
    | none => rw [take] at q1; exact q1.elim
    | some got =>
      rw [take] at q1
      obtain ⟨xs, own1, pop⟩ := Option.bind_eq_some_iff.mp take
      cases d with
      | int k =>
        unfold popD at pop
        dsimp only at pop
        by_cases small : k.natAbs < 2 ^ 62
        rotate_left
        · rw [if_neg small] at pop; cases pop
        rw [if_pos small] at pop
        obtain ⟨j, hj, pop⟩ := Option.bind_eq_some_iff.mp pop
        obtain ⟨x, hx, rfl⟩ := Option.map_eq_some_iff.mp pop
        obtain ⟨_, g1, g2, hv1, rr, eg, ok2, back⟩ := (ok1.less (fx' := f0) fun _ => Nat.zero_le _).slot (En.ownL_some own1)
        rw [hv] at hv1
        cases hv1
        cases rr with
        | @own _ _ vs _ g _ at_ _ free rs e3 =>
          obtain ⟨u, h1, h2, hu, ru, rest, e4⟩ := rps_erase rs hx
          have at' : H1 p = some (.lst vs) := at_
          refine ⟨p, vs, k, j, u, rfl, by rw [r1.toI], at', by omega, by omega, by rw [rs.len]; exact hj, hu, ?_⟩
          -- the item goes to the hand, the others stay in the list, which is written
          have one := ok2.wf.one
          have hold : ∀ b, g1 b = h1 b + h2 b + if b = p then 1 else 0 := fun b => by rw [e3 b, e4 b]
          have pp : h1 p = 0 ∧ h2 p = 0 := by have := one p; have := hold p; rw [if_pos rfl] at this; simp only [f0] at *; omega
          obtain ⟨ok3, af⟩ := ok2.chg (o := .lst (vs.eraseIdx j)) (a := p) (by have := hold p; rw [if_pos rfl] at this; omega) (at_.nofrz rfl)
          have still : ∀ {f : Fp}, f p = 0 → (∀ b, f b ≠ 0 → Hs1 b = none) → ∀ b, f b ≠ 0 → (upd H1 p (.lst (vs.eraseIdx j))) b = H1 b ∧ Hs1 b = none := fun z o b hb => ⟨upd_ne fun w => hb (w ▸ z), o b hb⟩
          have ru2 := ru.mono (Hs' := Hs1) (H' := upd H1 p (.lst (vs.eraseIdx j))) (Same.refl _) (still pp.1 fun b hb => (ru.live b hb).2)
          have rest2 := rest.mono (Hs' := Hs1) (H' := upd H1 p (.lst (vs.eraseIdx j))) (Same.refl _) (still pp.2 fun b hb => (rest.live b hb).2)
          have fit := ok3.fps (fe' := g2) (fx' := fun b => (h2 b + if b = p then 1 else 0) + h1 b) (fun _ => rfl) fun b => by rw [hold b]; simp only [f0]; omega
          exact q1 u Hs1 _ _ h1 (a1.trans af) (back (e' := e1) fit (.own (k := .lst) upd_same rfl free rest2 fun _ => rfl)) ru2
      | _ => simp [popD] at pop
end
/-- x.pop(i): the library's rule for a built-in's method, at list.pop -/
theorem pcPop {X : Cx} {i : Nat} {o e : Expr} {apos pos : Pos} (ho : PE X o (tVar i)) (h1 : attributeBase o "pop" X.env (eval o X.env) = eval o X.env)
    (h2 : ((backTo pos (starEach [e] X.env)).all (fun x => !x.1) && (backToKw pos (keywordEach [] X.env)).all (fun x => x.1.isSome) && decide (([e] : List Expr).length + ([] : List Keyword).length + (if ([] : List Keyword).isEmpty then 0 else 1) < 30)) = true)
    (h3 : (apos.endLine == pos.line) = true) (h4 : starEach [e] X.env = (false, eval e X.env) :: starEach [] X.env) (h5 : (backTo pos (starEach [] X.env)).any (·.1) = false) :
    ∀ t, PA X [e] t → PE X (.Call (.Attribute o "pop" apos) [e] [] pos) (tBM X.K "list" rPopAt (tVar i) t) := fun _ ha => pe_bm PySem.F.plainAttrs_list PySem.F.slot_list_pop PySem.F.type_list_pop mt_popAt ho ha h1 h2 h3 h4 h5
end Bx

set_option Elab.async false
set_option linter.all false
set_option maxRecDepth 100000
set_option maxHeartbeats 1000000
/-! A place within a slot's tree is lent to another slot: the tree waits, its root's slot is not looked at meanwhile. -/
namespace Bx
open PySem L2
section
variable {C : Cc} {Hs H : Hp} {σ : L2.St} {e : En} {fe : Fp} {P : Addr → Prop}
/-- what stands at the place, and what the tree is once the place holds another thing that is the same object -/
structure Plc (G : Gc) (Hs H : Hp) (root : V) (t : D) (u : V) (d : D) (put : D → D) (g gr : Fp) : Prop where
  here : Rp G Hs H u d g
  back : ∀ {Hs' H' : Hp} {d' : D} {g' : Fp}, Same Hs Hs' → (∀ b, gr b ≠ 0 → H' b = H b ∧ Hs' b = none) → Rp G Hs' H' u d' g' → Rp G Hs' H' root (put d') fun b => g' b + gr b
theorem Plc.top {G : Gc} {u : V} {d : D} {g : Fp} (r : Rp G Hs H u d g) : Plc G Hs H u d u d id g f0 := ⟨r, fun _ _ r' => r'.fp fun b => rfl⟩
/-- one step down, through an owned node -/
theorem Plc.down {G : Gc} {root u : V} {t x : D} {put : D → D} {k : Kd} {xs : List D} {g gr : Fp} {j : Nat} (p : Plc G Hs H root t u (.nd k true xs) put g gr) (hx : xs[j]? = some x) :
    ∃ a vs v g1 g2, u = .ref a ∧ At G H a k vs ∧ (∃ f', Rps G Hs H vs xs f') ∧ vs[j]? = some v ∧ (∀ b, g b + gr b = g1 b + g2 b) ∧ g2 a ≠ 0 ∧ Plc G Hs H root t v x (fun d' => put (.nd k true (xs.set j d'))) g1 g2 := by
  have r := p.here
  cases r with
  | @own a _ vs _ f _ at_ w free rs eg =>
    obtain ⟨v, h1, h2, hv, rv, ef, again⟩ := rps_lens rs hx
    refine ⟨a, vs, v, h1, fun b => h2 b + (if b = a then 1 else 0) + gr b, rfl, at_, ⟨_, rs⟩, hv, fun b => by show g b + gr b = h1 b + (h2 b + (if b = a then 1 else 0) + gr b); rw [eg b, ef b]; omega, by show h2 a + (if a = a then 1 else 0) + gr a ≠ 0; rw [if_pos rfl]; omega, rv, fun {Hs' H' d' g'} s keep r' => ?_⟩
    have ka := keep a (by show h2 a + (if a = a then 1 else 0) + gr a ≠ 0; rw [if_pos rfl]; omega)
    have node : Rp G Hs' H' (.ref a) (.nd k true (xs.set j d')) fun b => (g' b + h2 b) + if b = a then 1 else 0 := .own (at_.eq ka.1) w ka.2 (again s (fun b hb => keep b (by show h2 b + (if b = a then 1 else 0) + gr b ≠ 0; omega)) r') fun _ => rfl
    exact (p.back s (fun b hb => keep b (by show h2 b + (if b = a then 1 else 0) + gr b ≠ 0; omega)) node).fp fun b => by show g' b + (h2 b + (if b = a then 1 else 0) + gr b) = g' b + h2 b + (if b = a then 1 else 0) + gr b; omega
/-- the place goes to slot j; and back -/
theorem Ok.lendP {i j : Nat} {t d : D} {root u : V} {put : D → D} {g gr : Fp} (ok : Ok C Hs H σ e fe f0 P) (hi : e.sl[i]? = some (some t)) (hr : σ[i]? = some (some root)) (hij : i ≠ j) (hj : j < e.sl.length) (hn : npin C j)
    (tot : ∃ f2, (∀ b, fe b = (g b + gr b) + f2 b) ∧ Sls C.toGc Hs H σ (e.sl.set i none) f2) (grow : ∀ b, gr b ≠ 0 → H b ≠ none ∧ Hs b = none) (p : Plc C.toGc Hs H root t u d put g gr) :
    ∃ (f1 : Fp) (P1 : Addr → Prop), (∀ b, P b → P1 b) ∧ Ok ((C.pin i root).pin j u) Hs H (σ.set j (some u)) (e.lend i j d) f1 f0 P1 ∧
      ∀ {Hs' H' : Hp} {σ' : L2.St} {e' : En} {d' : D} {f2 f3 : Fp}, Aft Hs H Hs' H' P1 → Ok ((C.pin i root).pin j u) Hs' H' σ' e' f2 f3 P1 → e'.sl[i]? = some none → e'.sl[j]? = some (some d') → ∃ f4, Ok C Hs' H' σ' ((e'.del j).put i (put d')) f4 f3 P := by
  obtain ⟨f2, total, others⟩ := tot
  obtain ⟨m1, m2, split, others⟩ := others.forget j
  have wf := ok.wf
  have jl : j < σ.length := ok.sl.len ▸ hj
  have sl := others.put (i := j) (h := fun b => g b + m2 b) (by rw [List.getElem?_set_self (by rw [List.length_set]; exact hj)]) p.here fun _ => rfl
  rw [List.set_set] at sl
  have sum : ∀ b, fe b = g b + gr b + (m1 b + m2 b) := fun b => by rw [total b, split b]
  refine ⟨fun b => g b + m2 b, fun b => P b ∨ gr b ≠ 0, fun b hb => .inl hb, ⟨⟨wf.sm, fun b => ?_, fun b hb => wf.own b ?_, fun b hb => ?_, fun b hb => hb.elim (wf.live b) fun z => (grow b z).1⟩, sl, fun q hq => ?_, ok.ex⟩, fun {Hs' H' σ' e' d' k1 k2} af ok' hi' hj' => ?_⟩
  · have o := wf.one b; have a := sum b; show g b + m2 b + 0 ≤ 1; have o' : fe b + 0 ≤ 1 := o; omega
  · have a := sum b; have hb' : g b + m2 b + 0 ≠ 0 := hb; show fe b + 0 ≠ 0; omega
  · have a := sum b
    have o : fe b + 0 ≤ 1 := wf.one b
    show g b + m2 b + 0 = 0
    rcases hb with z | z
    · have y : fe b + 0 = 0 := wf.apart b z
      omega
    · omega
  · rcases List.mem_cons.mp hq with rfl | hq
    · exact List.getElem?_set_self jl
    rcases List.mem_cons.mp hq with rfl | hq
    · exact (List.getElem?_set_ne (Ne.symm hij)).trans hr
    · exact (List.getElem?_set_ne (Ne.symm (hn q hq))).trans (ok.pn q hq)
  · have pj := ok'.pn (j, u) List.mem_cons_self
    have pi := ok'.pn (i, root) (List.mem_cons_of_mem _ List.mem_cons_self)
    obtain ⟨_, n1, n2, hw, rd, en, rest⟩ := ok'.sl.get hj'
    have same := pj.symm.trans hw
    cases same
    have held := p.back af.sh (fun b hb => af.keep b (.inr hb) (grow b hb).2) rd
    have again := rest.put (i := i) (h := fun b => (n1 b + gr b) + n2 b) ((List.getElem?_set_ne (Ne.symm hij)).trans hi') held fun _ => rfl
    rw [setL_same pi] at again
    have wf' := ok'.wf
    have case : ∀ b, gr b ≠ 0 → k1 b + k2 b = 0 := fun b hb => wf'.apart b (.inr hb)
    refine ⟨_, ⟨⟨wf'.sm, fun b => ?_, fun b hb => ?_, fun b hb => ?_, fun b hb => wf'.live b (.inl hb)⟩, again, fun q hq => ok'.pn q (List.mem_cons_of_mem _ (List.mem_cons_of_mem _ hq)), ok'.ex⟩⟩
    · have o : k1 b + k2 b ≤ 1 := wf'.one b
      have o2 : fe b + 0 ≤ 1 := wf.one b
      have a := sum b; have n := en b
      show n1 b + gr b + n2 b + k2 b ≤ 1
      by_cases z : gr b = 0
      · omega
      · have := case b z; omega
    · by_cases z : gr b = 0
      · exact wf'.own b (by have n := en b; have hb' : n1 b + gr b + n2 b + k2 b ≠ 0 := hb; show k1 b + k2 b ≠ 0; omega)
      · exact (af.keep b (.inr z) (grow b z).2).2
    · have x : k1 b + k2 b = 0 := wf'.apart b (.inl hb)
      have y : fe b + 0 = 0 := wf.apart b hb
      have a := sum b; have n := en b
      show n1 b + gr b + n2 b + k2 b = 0
      omega
end
end Bx

set_option Elab.async false
set_option linter.all false
set_option maxRecDepth 100000
set_option maxHeartbeats 1000000
/-! Dicts with nested keys made and asked; sets made; «in» that leaves what it looks through. -/
namespace Bx
open PySem L2
/-! ### tuples of ints -/
def intsDs : List D → Option (List Int)
  | [] => some []
  | .int i :: ds => (intsDs ds).map (i :: ·)
  | _ :: _ => none
def itupD (d : D) : Option (List Int) := match d.seq with
  | some (false, xs) => intsDs xs
  | _ => none
def itupsD : List D → Option (List (List Int))
  | [] => some []
  | d :: ds => (itupD d).bind fun k => (itupsD ds).map (k :: ·)
section
variable {G : Gc} {Hs H : Hp}
theorem intsDs_rps : ∀ {ds : List D} {vs : List V} {f : Fp} {ns : List Int}, Rps G Hs H vs ds f → intsDs ds = some ns → vs = ns.map V.int
  | [], _, _, _, .nil _, h => by cases h; rfl
  | .int i :: ds, _, _, ns, .cons r rs _, h => by
    obtain ⟨ms, h1, rfl⟩ := Option.map_eq_some_iff.mp h
    rw [r.toI, intsDs_rps rs h1]; rfl
theorem itupD_rp {d : D} {v : V} {f : Fp} {k : List Int} (s : Sm Hs H) (r : Rp G Hs H v d f) (h : itupD d = some k) : ∃ b, v = .ref b ∧ SqT G.K H b (k.map V.int) := by
  unfold itupD at h
  split at h
  · rename_i xs hx
    obtain ⟨a, vs, g, e, _, t, rs, _⟩ := r.seq s hx
    exact ⟨a, e, intsDs_rps rs h ▸ t rfl⟩
  · cases h
theorem itupsD_rps (s : Sm Hs H) : ∀ {ds : List D} {vs : List V} {f : Fp} {ks : List (List Int)}, Rps G Hs H vs ds f → itupsD ds = some ks →
    ∃ ps : List (Addr × List Int), ps.map (·.2) = ks ∧ vs = ps.map (fun p => V.ref p.1) ∧ ∀ p ∈ ps, SqT G.K H p.1 (p.2.map V.int)
  | [], _, _, _, .nil _, h => by cases h; exact ⟨[], rfl, rfl, fun p hp => by cases hp⟩
  | d :: ds, _, _, ks, .cons r rs _, h => by
    obtain ⟨k, h1, h2⟩ := Option.bind_eq_some_iff.mp (show (itupD d).bind _ = some ks from h)
    obtain ⟨ks', h3, rfl⟩ := Option.map_eq_some_iff.mp h2
    obtain ⟨b, rfl, hb⟩ := itupD_rp s r h1
    obtain ⟨ps, e1, e2, e3⟩ := itupsD_rps s rs h3
    refine ⟨(b, k) :: ps, by rw [List.map_cons, e1], by rw [List.map_cons, e2], fun p hp => ?_⟩
    rcases List.mem_cons.mp hp with rfl | hp
    · exact hb
    · exact e3 p hp
end
/-! ### set(xs) -/
def setOfD : List D → Option D
  | [d] => match d.seq with
    | some (true, xs) => if xs.length < 64 then (itupsD xs).map fun ks => .nd (.st ks) true xs else none
    | _ => none
  | _ => none
theorem zip_refs : ∀ ps : List (Addr × List Int), (ps.map (·.2)).zip (ps.map fun p => V.ref p.1) = ps.map fun p => (p.2, V.ref p.1)
  | [] => rfl
  | p :: ps => by rw [List.map_cons, List.map_cons, List.zip_cons_cons, zip_refs ps, List.map_cons]
theorem setOfS {G : Gc} : CallS G (rSetOfT G.K G.P G.w) setOfD := by
  intro Hs H vs ds z Q s r0 hz q
  unfold setOfD at hz
  split at hz
  · split at hz
    · rename_i d _ xs h
      split at hz
      · rename_i few
        obtain ⟨ks, hk, rfl⟩ := Option.map_eq_some_iff.mp hz
        obtain ⟨v, rfl, r⟩ := r0.one
        obtain ⟨a, ws, g, rfl, hL, _, rs, le⟩ := r.seq s h
        obtain ⟨ps, rfl, rfl, hp⟩ := itupsD_rps s (rs.z le) hk
        have flat : ∀ {xs : List D} {vs : List V} {f : Fp}, Rps G Hs H vs xs f → ∀ b, f b ≤ f b := fun _ _ => Nat.le_refl _
        refine ⟨a, ps, rfl, hL rfl, hp, by rw [← List.length_map (f := fun p : Addr × List Int => V.ref p.1), rs.len]; exact few, fun b L hb sub all => ?_⟩
        have n := New.obj (o := SetTO G.P G.w b L) s hb
        refine q _ _ _ _ n (.own (f := f0) (vs := ps.map fun p => V.ref p.1) ⟨L, ⟨by simp, fun p hp => ?_, fun k hk => ?_⟩, upd_same⟩ rfl (s.live hb) ((rs.z le).mono (Same.refl _) fun c hc => absurd rfl hc) fun c => (Nat.zero_add _).symm)
        · rw [zip_refs]
          exact List.mem_map.mpr ⟨p, sub p hp, rfl⟩
        · obtain ⟨p, hp, rfl⟩ := List.mem_map.mp hk
          exact all p hp
      · cases hz
    · cases hz
  · cases hz
/-! ### y in d, d looked at -/
def memD (y d : D) : Option Bool := match d with
  | .nd k _ xs => (match k with
    | .dk ks => (keyD y).map fun k => (kpos ks k).isSome
    | .dt ks => (tkeyD y).map fun k => (kpos ks k).isSome
    | .dn ks => if keysOk ks xs then (tnkD y).map fun k => (kpos ks k).isSome else none
    | .st ks => if itupsD xs = some ks then (itupD y).map fun k => decide (k ∈ ks) else none
    | .lst => if eqOk y && eqOks xs && SeqAt.shaped (pyd y) && SeqAt.shaped (.list (pyds xs)) then some ((pyds xs).any fun z => PyData.eqv z (pyd y)) else none
    | .wl => if eqOk y && eqOks xs && SeqAt.shaped (pyd y) && SeqAt.shaped (.list (pyds xs)) then some ((pyds xs).any fun z => PyData.eqv z (pyd y)) else none
    | .tup => if flatD y && xs.all flatD then some (xs.any fun z => eqF z y) else none
    | .wt => if flatD y && xs.all flatD then some (xs.any fun z => eqF z y) else none
    | .ins _ _ => none)
  | .str z => (match y with
    | .str x => some (!(Builtin.Str.occurrences z x 0 z.length 1).isEmpty)
    | _ => none)
  | _ => none
def rDkIn (neg : Bool) : R2 := fun y x H Q => ∃ a o, x = V.ref a ∧ DGet H a y o ∧ Q (V.bl (if neg then !o.isSome else o.isSome)) H
def rLIn (K : PySem.W.Frag) (neg : Bool) : R2 := fun y x H Q => if neg then rNotInD K y x H Q else L2.rInD K y x H Q
def rMem (K : PySem.W.Frag) (P : Program) (w : World) (neg : Bool) : R2 := fun y x H Q => rDkIn neg y x H Q ∨ rNIn K P w neg y x H Q ∨ rStIn K P w neg y x H Q ∨ rLIn K neg y x H Q ∨ rInA K neg y x H Q
section
variable {X : Cx} {G : Gc}
theorem op_mem (hu : X.A.units + 65 < cLine) (hk : XC X G) : OpR X (compareOp .In) (rMem G.K G.P G.w false) := by
  obtain ⟨k1, k2⟩ := Prod.mk.inj hk
  obtain ⟨k2, k3⟩ := Prod.mk.inj k2
  rw [← k1, ← k2, ← k3]
  refine OpR.or (fun pins s σ H y x u v Q I ry rx h => ?_) (OpR.or (op_inN (by omega)) (OpR.or (op_inSt (by omega)) (OpR.or (fun pins s σ H y x u v Q I ry rx h => op_inD hu pins s σ H y x u v Q I ry rx h) op_inA)))
  obtain ⟨a, o, rfl, g, q⟩ := h
  cases rx
  exact d_in (by omega) I g ry fun s3 I3 => ⟨.bl _, H, I3, rfl, q⟩
theorem op_notMem (hu : X.A.units + 65 < cLine) (hk : XC X G) : OpR X (compareOp .NotIn) (rMem G.K G.P G.w true) := by
  obtain ⟨k1, k2⟩ := Prod.mk.inj hk
  obtain ⟨k2, k3⟩ := Prod.mk.inj k2
  rw [← k1, ← k2, ← k3]
  refine OpR.or (fun pins s σ H y x u v Q I ry rx h => ?_) (OpR.or (op_notInN (by omega)) (OpR.or (op_notInSt (by omega)) (OpR.or (fun pins s σ H y x u v Q I ry rx h => op_notInD hu pins s σ H y x u v Q I ry rx h) op_notInA)))
  obtain ⟨a, o, rfl, g, q⟩ := h
  cases rx
  exact d_notIn (by omega) I g ry fun s3 I3 => ⟨.bl _, H, I3, rfl, q⟩
variable {Hs H : Hp}
theorem memS {y d : D} {u v : V} {g f : Fp} {k neg : Bool} {Q : VK} (s : Sm Hs H) (ry : Rp G Hs H u y g) (rd : Rp G Hs H v d f) (h : memD y d = some k) (q : Q (.bl (if neg then !k else k)) H) : rMem G.K G.P G.w neg u v H Q := by
  unfold memD at h
  cases d with
  | nd kd o xs =>
    obtain ⟨a, vs, g', rfl, rs, le, at_⟩ := rd.nd s
    have flat : ∀ b, (D.nd kd o xs).seq = some (b, xs) → (if flatD y && xs.all flatD then some (xs.any fun z => eqF z y) else none) = some k → rInA G.K neg u (.ref a) H Q := fun b hb h => by
      have z : inD y (.nd kd o xs) = some (.bl k) := by
        unfold inD
        split
        · rename_i e; cases e
        · rw [hb]
          dsimp only
          split at h
          · rename_i hc
            rw [if_pos hc]
            cases h; rfl
          · cases h
      exact inS0 s ry rd z fun k' e => by cases e; exact q
    have deep : pyd (.nd kd o xs) = .list (pyds xs) → eqOk (.nd kd o xs) = eqOks xs → (if eqOk y && eqOks xs && SeqAt.shaped (pyd y) && SeqAt.shaped (.list (pyds xs)) then some ((pyds xs).any fun z => PyData.eqv z (pyd y)) else none) = some k → rLIn G.K neg u (.ref a) H Q := fun hp he h => by
      split at h
      · rename_i hc
        cases h
        simp only [Bool.and_eq_true] at hc
        have d1 := ry.dp s hc.1.1.1
        have d2 := rd.dp s (he.trans hc.1.1.2)
        rw [hp] at d2
        unfold rLIn
        cases neg
        · exact ⟨_, _, d1, d2, hc.1.2, hc.2, q⟩
        · exact ⟨_, _, d1, d2, hc.1.2, hc.2, q⟩
      · cases h
    cases kd with
    | dk ks =>
      obtain ⟨hl, rdd⟩ := dk_rd' s at_
      obtain ⟨key, h1, rfl⟩ := Option.map_eq_some_iff.mp h
      refine .inl ⟨a, valV (ks.zip vs) key, rfl, .inl ⟨_, key, rdd, keyD_rp ry h1, rfl⟩, ?_⟩
      have e : (valV (ks.zip vs) key).isSome = (kpos ks key).isSome := by
        rw [valV_kpos hl]
        cases hj : kpos ks key with
        | none => rfl
        | some j => have := kpos_lt hj; rw [Option.bind_some, List.getElem?_eq_getElem (by omega)]; rfl
      rw [e]; exact q
    | dt ks =>
      obtain ⟨hl, rdd⟩ := dt_rd' s at_
      obtain ⟨key, h1, rfl⟩ := Option.map_eq_some_iff.mp h
      obtain ⟨b, e2, hb⟩ := tkeyD_rp s ry h1
      refine .inl ⟨a, valV (ks.zip vs) key, rfl, .inr ⟨_, key, b, rdd, e2, hb, rfl⟩, ?_⟩
      have e : (valV (ks.zip vs) key).isSome = (kpos ks key).isSome := by
        rw [valV_kpos hl]
        cases hj : kpos ks key with
        | none => rfl
        | some j => have := kpos_lt hj; rw [Option.bind_some, List.getElem?_eq_getElem (by omega)]; rfl
      rw [e]; exact q
    | dn ks =>
      dsimp only at h
      split at h
      · rename_i hc
        obtain ⟨key, h1, rfl⟩ := Option.map_eq_some_iff.mp h
        have g := ndGet s at_ rs ry hc h1
        refine .inr (.inl ⟨a, _, rfl, g, ?_⟩)
        have e : (((kpos ks key).map (2 * · + 1)).bind (vs[·]?)).isSome = (kpos ks key).isSome := by
          cases hj : kpos ks key with
          | none => rfl
          | some j =>
            obtain ⟨es, ⟨rfl, _, rfl⟩, _⟩ := dn_rd' s at_
            have := kpos_lt hj
            rw [List.length_map] at this
            show ((es.flatMap fun p => [p.2.1, p.2.2])[2 * j + 1]?).isSome = true
            rw [List.getElem?_eq_getElem (by rw [nFlat_len]; omega)]; rfl
        rw [e]; exact q
      · cases h
    | st ks =>
      dsimp only at h
      split at h
      · rename_i hc
        obtain ⟨key, h1, rfl⟩ := Option.map_eq_some_iff.mp h
        obtain ⟨L, ⟨hl, sub, all⟩, rdd⟩ : ∃ L : List (Addr × List Int), (ks.length = vs.length ∧ (∀ p ∈ L, (p.2, V.ref p.1) ∈ ks.zip vs) ∧ ∀ k ∈ ks, k ∈ L.map (·.2)) ∧ Rd H a (SetTO G.P G.w a L) := by
          rcases at_ with ⟨L, h1, h2⟩ | ⟨⟨L, h1, h2⟩, _⟩ | ⟨h, _⟩
          · exact ⟨L, h1, .inl h2⟩
          · exact ⟨L, h1, s.rd h2⟩
          · cases h
        obtain ⟨ps, rfl, rfl, hp⟩ := itupsD_rps s rs hc
        rw [zip_refs] at sub
        have sub' : ∀ p ∈ L, p ∈ ps := fun p hp => by
          obtain ⟨p', h1, h2⟩ := List.mem_map.mp (sub p hp)
          obtain ⟨e1, e2⟩ := Prod.mk.inj h2
          injection e2 with e2
          have : p' = p := Prod.ext e2 e1
          rw [← this]; exact h1
        obtain ⟨b, rfl, hb⟩ := itupD_rp s ry h1
        have e : decide (key ∈ L.map (·.2)) = decide (key ∈ ps.map (·.2)) := by
          refine decide_eq_decide.mpr ⟨fun z => ?_, all key⟩
          obtain ⟨p, hp', e'⟩ := List.mem_map.mp z
          exact List.mem_map.mpr ⟨p, sub' p hp', e'⟩
        exact .inr (.inr (.inl ⟨a, b, L, key, rfl, rfl, rdd, fun p hp' => hp p (sub' p hp'), hb, by rw [e]; exact q⟩))
      · cases h
    | lst => exact .inr (.inr (.inr (.inl (deep rfl rfl h))))
    | wl => exact .inr (.inr (.inr (.inl (deep rfl rfl h))))
    | tup => exact .inr (.inr (.inr (.inr (flat false rfl h))))
    | wt => exact .inr (.inr (.inr (.inr (flat false rfl h))))
    | ins c fn => cases h
  | str z =>
    dsimp only at h
    split at h
    · cases h
      refine .inr (.inr (.inr (.inr (inS0 s ry rd (z := .bl _) rfl fun k' e => by cases e; exact q))))
    · cases h
  | _ => cases h
end
/-- y in p, p a place -/
def eInL (neg : Bool) (a : FE) (p : FL) : FE := fun e => (a e).bind fun y e1 => match p e1 with
  | some (d, _) => (match memD (frz y) d with
    | some k => .ok (.bl (if neg then !k else k)) e1
    | none => .bad)
  | none => .bad
section
variable {X : Cx} {C : Cc} {W : WX} {pos : Pos} {a b : Expr} {Fa : FE} {Fl : FL}
theorem mem_read {neg : Bool} {σ : L2.St} {H : Hp} {Q : VK} (h : canE C W (eInL neg Fa Fl) σ H Q) : tOp (rMem C.K C.P C.w neg) (canE C W Fa) (canL C Fl) σ H Q := by
  obtain ⟨e, Hs, fe, P, ok, q⟩ := h
  refine firstE ok q.bind fun y e1 u Hs1 H1 fe1 fv1 a1 ok1 r1 q1 => ?_
  obtain ⟨Hs2, a2, ok2, r2, _⟩ := (ok1.fps (fun _ => rfl) (fx' := fun b => fv1 b + f0 b) fun _ => rfl).freeze r1
  have q2 := q1.shift (a1.trans a2)
  cases hp : Fl e1 with
  | none => rw [hp] at q2; exact q2.elim
  | some dS =>
    obtain ⟨d, S⟩ := dS
    rw [hp] at q2
    dsimp only at q2
    cases hm : memD (frz y) d with
    | none => rw [hm] at q2; exact q2.elim
    | some k =>
      rw [hm] at q2
      refine ⟨e1, Hs2, fe1, P, d, S, ok2, hp, fun v f Hs3 H3 n l => ?_⟩
      exact memS n.sm (r2.keepN n) l.rp hm (q2 _ Hs3 H3 fe1 f0 (n.aft ok2) (ok2.newN n) (r_bl _))
theorem be_inL (hu : X.A.units + 65 < cLine) (hk : XC X C.toGc) (hm : behindInMarks .In b = false) (ha : BE X C W a Fa) (hb : BL X C b Fl) : BE X C W (.Compare a [.In] [b] pos) (eInL false Fa Fl) :=
  (pe_cmpR (op_mem hu hk) ha hb hm).imp fun σ H Q h => mem_read h
theorem be_notInL (hu : X.A.units + 65 < cLine) (hk : XC X C.toGc) (hm : behindInMarks .NotIn b = false) (ha : BE X C W a Fa) (hb : BL X C b Fl) : BE X C W (.Compare a [.NotIn] [b] pos) (eInL true Fa Fl) :=
  (pe_cmpR (op_notMem hu hk) ha hb hm).imp fun σ H Q h => mem_read h
theorem bt_inL (hu : X.A.units + 65 < cLine) (hk : XC X C.toGc) (hm : behindInMarks .In b = false) (ha : BE X C W a Fa) (hb : BL X C b Fl) : BT X C W (.Compare a [.In] [b] pos) (tTst (eInL false Fa Fl)) :=
  bt_of (pt_cmpR (op_mem hu hk) ha hb hm) fun σ H Q h => mem_read h
theorem bt_notInL (hu : X.A.units + 65 < cLine) (hk : XC X C.toGc) (hm : behindInMarks .NotIn b = false) (ha : BE X C W a Fa) (hb : BL X C b Fl) : BT X C W (.Compare a [.NotIn] [b] pos) (tTst (eInL true Fa Fl)) :=
  bt_of (pt_cmpR (op_notMem hu hk) ha hb hm) fun σ H Q h => mem_read h
end
end Bx

set_option Elab.async false
set_option linter.all false
set_option maxRecDepth 100000
set_option maxHeartbeats 1000000
/-! Dicts with nested keys: made empty, written out; methods of any receiver that is known. -/
namespace Bx
open PySem L2
theorem nDict_ok {P : Program} {w : World} {H : Hp} {h : Heap} {a : Addr} {es : NEs} {xs : List (NestedKey × Addr × Value)} (hd : (a == sysModules) = false) (hz : es.length ≤ sizeLine) (rel : Paired NRel es xs) (dh : h.DictOfH (nestedKind P w) a xs) : ObjOk P w H h a (nDict P w a es) := by
  obtain ⟨o, ds, ep, e1, e2, e3, e4, _, e5⟩ := dh
  refine ⟨⟨hd, hz, xs, rel, o, ds, ep, e1, e2, e3, e4, e5⟩, ⟨o, e1⟩, fun h1 h2 x k => ?_⟩
  obtain ⟨g1, g2, ys, r2, o2, ds2, ep2, f1, f2⟩ := x
  exact ⟨g1, g2, ys, r2, o2, ds2, ep2, k _ f1, f2⟩
section
variable {X : Cx} {pos : Pos}
/-- an expression's new empty dict is told as one with nested keys -/
theorem pe_dn0 : PE X (.Dict [] [] pos) (fun _ H Q => ∀ p, H p = none → Q (.ref p) (upd H p (nDict X.prog X.w p []))) := ⟨fun pins s σ H Q I h => by
  refine thn (pe_dnewK.run pins s σ H (fun v H1 => ∃ p, H p = none ∧ v = .ref p ∧ H1 = upd H p (.dK [])) I fun p hp => ⟨p, hp, rfl, rfl⟩) fun u s1 ⟨v, H1, I1, rv, p, hp, ev, e1⟩ => ?_
  subst ev e1
  obtain ⟨_, hd, vs, kv, o, ds, ep, e1, e2, e3, _, e4, _⟩ := (show ObjOk X.prog X.w _ s1.heap p (.dK []) from I1.hok p _ upd_same)
  cases kv
  have none : ds.toList = [] := by
    cases z : ds.toList with
    | nil => rfl
    | cons _ _ => rw [z] at e4; first | exact e4.elim | cases e4
  have new : ObjOk X.prog X.w (upd (upd H p (.dK [])) p (nDict X.prog X.w p [])) s1.heap p (nDict X.prog X.w p []) := nDict_ok hd (Nat.zero_le _) .nil ⟨o, ds, ep, e1, e2, e3, none, (fun x hx => nomatch hx), List.nodup_nil⟩
  have I2 := d_write (t' := s1.toks) I1 (by rw [upd_same]; exact True.intro) ⟨rfl, fun _ _ => rfl⟩ ⟨o, e1⟩ new
  rw [upd_upd] at I2
  exact ⟨_, _, I2, rv, h p hp⟩⟩
end
def eDn0 : FE := fun e => .ok (.nd (.dn []) true []) e
section
variable {X : Cx} {C : Cc} {W : WX} {pos : Pos}
theorem be_dn0 (hk : XC X C.toGc) : BE X C W (.Dict [] [] pos) eDn0 := pe_dn0.imp fun σ H Q ⟨e, Hs, fe, P, ok, q⟩ p hp => by
  obtain ⟨k1, k2⟩ := Prod.mk.inj hk
  obtain ⟨k2, k3⟩ := Prod.mk.inj k2
  rw [k2, k3]
  have n := New.obj (o := nDict C.P C.w p []) ok.sm hp
  exact q (.ref p) Hs _ fe _ (n.aft ok) (ok.newN n) (.own (f := f0) (vs := []) ⟨[], ⟨rfl, .nil, rfl⟩, upd_same⟩ rfl (ok.sm.live hp) (.nil fun _ => rfl) fun b => (Nat.zero_add _).symm)
end
/-! ### written out -/
theorem storedAllH_fresh : ∀ {ps acc : List (NestedKey × Addr × Value)}, ((acc ++ ps).map (·.1)).Nodup → storedAllH acc ps = acc ++ ps
  | [], acc, _ => (List.append_nil acc).symm
  | p :: ps, acc, h => by
    have n : atKey acc p.1 = none := atKey_none_of_get fun j q hj => by
      rw [List.map_append, List.map_cons, List.nodup_append] at h
      exact h.2.2 _ (List.mem_map.mpr ⟨_, List.mem_of_getElem? hj, rfl⟩) _ List.mem_cons_self rfl
    have one : storedAllH acc (p :: ps) = storedAllH (acc ++ [p]) ps := by
      show storedAllH (storedH acc p.1 p.2.1 p.2.2) ps = _
      rw [storedH_new n]
    rw [one, storedAllH_fresh (by rw [List.append_assoc]; exact h), List.append_assoc]; rfl
theorem carried {X : Cx} {pins : List (Addr × Obj)} {σ : L2.St} {H : Hp} {s : Shared} (I : Inv X pins σ H s) : ∀ {es : NEs} {ws : List (Value × Value)}, VV (es.map (·.2)) ws → (∀ p ∈ es, (NkV X.K H p.1 p.2.1 ∧ p.1.depth ≤ 8) ∧ ∃ b, p.2.1 = .ref b) →
    ∃ xs, CarriesH (nestedKind X.prog X.w) s.heap ws xs ∧ Paired NRel es xs ∧ xs.map (·.1) = es.map (·.1)
  | [], _, r, _ => by cases r; exact ⟨[], trivial, .nil, rfl⟩
  | p :: es, _, r, hk => by
    cases r with
    | @cons _ u _ ws r t =>
      obtain ⟨xs, c, rel, e⟩ := carried I t fun q hq => hk q (List.mem_cons_of_mem _ hq)
      obtain ⟨⟨k1, k2⟩, b, kb⟩ := hk p List.mem_cons_self
      have ru : u.1 = .ref b := by have := r.1; rw [kb] at this; exact this
      refine ⟨(p.1, b, u.2) :: xs, ?_, .cons ⟨rfl, kb, r.2⟩ rel, by rw [List.map_cons, e, List.map_cons]⟩
      obtain ⟨u1, u2⟩ := u
      cases ru
      exact ⟨rfl, rfl, ⟨k1.held I (by rw [kb]; rfl), k2⟩, c⟩
def tDispN (K : PySem.W.Frag) (P : Program) (w : World) (trs : List (TE × TE)) : TE := fun σ H Q => ∀ p, H p = none → tPairs trs σ (upd H p (nDict P w p [])) fun ps H2 => H2 p = some (nDict P w p []) ∧ ∃ es : NEs, ps = es.map (·.2) ∧ (es.map (·.1)).Nodup ∧
  (∀ q ∈ es, (NkV K H2 q.1 q.2.1 ∧ q.1.depth ≤ 8) ∧ ∃ b, q.2.1 = .ref b) ∧ es.length ≤ 15 ∧ Q (.ref p) (upd H2 p (nDict P w p es))
theorem pe_dispN {X : Cx} {pos : Pos} {keys : List (Option Expr)} {values : List Expr} {trs : List (TE × TE)} (hu : X.A.units + 64 < cLine) (h : PPs X pos keys values trs) (hall : keys.all (·.isSome) = true) (hl : keys.length = values.length) (h0 : keys ≠ []) (h15 : keys.length ≤ 15) :
    PE X (.Dict keys values pos) (tDispN X.K X.prog X.w trs) := ⟨fun pins s σ H Q I q => by
  have num := pairTrees_length keys values X.env pos hall hl
  have some1 : pairTrees keys values X.env pos ≠ [] := fun z => h0 (List.length_eq_zero_iff.mp (by rw [← num, z]; rfl))
  have fresh := I.hok.fresh (Nat.le_refl s.heap.objs.size)
  have hd : (s.heap.objs.size == sysModules) = false := beq_eq_false_iff_ne.mpr (Ne.symm (Nat.ne_of_lt I.big))
  have I1 := I.laid (a := s.heap.objs.size) (o := nDict X.prog X.w s.heap.objs.size []) (h' := s.heap.push { cls := .type "dict", data := .dict #[] }) (t' := s.toks) (fun _ _ z => Heap.get?_push_of_some _ z) (Nat.le_refl _) (nDict_ok hd (Nat.zero_le _) .nil (Heap.DictOfH.new s.heap))
  rw [arm_eval_Dict, zip_pairTrees keys values X.env pos hall hl, dictDisplay_pairs _ some1 (by omega)]
  refine wpAny_bind (wpAny_standAt (wpAny_bind (wpAny_subDictH (knd := nestedKind X.prog X.w) (by show X.A.units + 8 < cLine; omega) (by omega) (thn (h.run pins _ σ _ _ I1 (q _ fresh)) ?_))))
  rintro ws s2 ⟨ps, H2, I2, rel, e, es, rfl, nd, keys, few, q2⟩
  obtain ⟨xs, c, nr, ek⟩ := carried I2 rel keys
  obtain ⟨_, _, ys, yr, dh⟩ := nDict_at I2 (.of e) fun p hp => by cases hp
  cases yr
  refine ⟨xs, c, dh, fun h' tk hm hs => wpAny_pure ⟨.ref s.heap.objs.size, _, ?_, rfl, q2⟩⟩
  rw [storedAllH_fresh (by rw [List.nil_append, ek]; exact nd), List.nil_append] at hm
  obtain ⟨o, _, _, e1, _⟩ := id hm
  exact d_write I2 (by rw [e]; exact True.intro) hs ⟨o, e1⟩ (nDict_ok hd (by rw [sizeLine_eq]; omega) nr hm)⟩
end Bx

set_option Elab.async false
set_option linter.all false
set_option maxRecDepth 100000
set_option maxHeartbeats 1000000
/-! Dicts with nested keys, as data: written out, asked with a default. -/
namespace Bx
open PySem L2
theorem Rs.bind_bind {α β γ : Type} (r : Rs α) (f : α → En → Rs β) (g : β → En → Rs γ) : (r.bind f).bind g = r.bind fun a e => (f a e).bind g := by cases r <;> rfl
abbrev flatP (ps : List (V × V)) : List V := ps.flatMap fun p => [p.1, p.2]
/-- the pairs of a display: keys and values in turn -/
def BPs (X : Cx) (C : Cc) (W : WX) (pos : Pos) (keys : List (Option Expr)) (values : List Expr) (As : FA) : Prop := ∃ trs, PPs X pos keys values trs ∧
  ∀ σ H (Q : List (V × V) → Hp → Prop), canA C W As σ H (fun vs H2 => ∃ ps, vs = flatP ps ∧ Q ps H2) → tPairs trs σ H Q
section
variable {X : Cx} {C : Cc} {W : WX} {pos : Pos} {k v : Expr} {ks : List (Option Expr)} {vs : List Expr} {Fk Fv : FE} {As : FA}
theorem bps_nil : BPs X C W pos [] [] aNil := ⟨[], pps_nil, fun σ H Q ⟨e, Hs, fe, P, ok, q⟩ => by
  obtain ⟨ps, e1, q⟩ := q [] Hs H fe f0 (Aft.refl _ _ _) ok (.nil fun _ => rfl)
  cases ps with
  | nil => exact q
  | cons p ps => cases e1⟩
theorem bps_cons (hk : BE X C W k Fk) (hv : BE X C W v Fv) (hr : BPs X C W pos ks vs As) : BPs X C W pos (some k :: ks) (v :: vs) (aCons Fk (aCons Fv As)) := by
  obtain ⟨trs, h1, h2⟩ := hr
  refine ⟨_, pps_cons hk hv h1, fun σ H Q ⟨e, Hs, fe, P, ok, q⟩ => ?_⟩
  refine firstE ok q.bind fun d1 e1 v1 Hs1 H1 fe1 fv1 a1 ok1 r1 q1 => ?_
  unfold aCons at q1
  rw [Rs.bind_bind] at q1
  refine bindE ok1 (.rp r1) (q1.shift a1).bind fun d2 e2 v2 Hs2 H2 fe2 fv2 a2 ok2 r1 r2 q2 => h2 σ H2 _ ?_
  rw [Rs.bind_bind] at q2
  have both : Rps C.toGc Hs2 H2 [v1, v2] [d1, d2] fun b => fv1 b + fv2 b := .cons r1 (.cons r2 (.nil (f := f0) fun _ => rfl) fun _ => rfl) fun _ => rfl
  refine bindA ok2 (.rps both) (q2.shift (a2.weak fun b hb => .inl hb)).bind fun as e5 us Hs5 H5 fe5 fv5 a5 ok5 held r5 q5 => ?_
  cases held with
  | cons r1 rs g1 =>
    cases rs with
    | cons r2 rs g2 =>
      cases rs with
      | nil z =>
        obtain ⟨ps, e6, q6⟩ := q5 (v1 :: v2 :: us) Hs5 H5 fe5 _ (a5.weak fun b hb => .inl hb) ok5 (.d r1 (.d r2 r5 fun _ => rfl) fun b => by have g1' : fv1 b + fv2 b = _ := g1 b; have g2' := g2 b; have z' := z b; show fv1 b + fv2 b + fv5 b = _; rw [g1', g2', z']; omega)
        cases ps with
        | nil => cases e6
        | cons p ps =>
          have e7 : v1 :: v2 :: us = p.1 :: p.2 :: flatP ps := e6
          injection e7 with e8 e9
          injection e9 with e9 e10
          exact ⟨ps, e10, by rw [e8, e9]; exact q6⟩
end
def nkeys : List D → Option (List NestedKey)
  | [] => some []
  | k :: _ :: r => if k.isF then (tnkD k).bind fun a => (nkeys r).map (a :: ·) else none
  | _ => none
def dispD (ds : List D) : Option D := (nkeys ds).bind fun ks => if ks.Nodup ∧ ds.length ≤ 30 then some (.nd (.dn ks) true ds) else none
def eDispN (As : FA) : FE := fun e => (As e).bind fun as e1 => .opt ((dvs as).bind dispD) e1
theorem nkeys_rps {G : Gc} {Hs H : Hp} (s : Sm Hs H) : ∀ {ds : List D} {vs : List V} {f : Fp} {ks : List NestedKey}, Rps G Hs H vs ds f → nkeys ds = some ks →
    ∃ es : NEs, es.map (·.1) = ks ∧ es.flatMap (fun p => [p.2.1, p.2.2]) = vs ∧ ∀ q ∈ es, (NkV G.K H q.1 q.2.1 ∧ q.1.depth ≤ 8) ∧ ∃ b, q.2.1 = .ref b
  | [], _, _, _, .nil _, h => by cases h; exact ⟨[], rfl, rfl, fun q hq => by cases hq⟩
  | [_], _, _, _, _, h => by cases h
  | k :: d :: ds, _, _, ks, .cons (v := v1) r1 (.cons (v := v2) r2 rs _) _, h => by
    unfold nkeys at h
    split at h
    · obtain ⟨a, h1, h2⟩ := Option.bind_eq_some_iff.mp h
      obtain ⟨ks', h3, rfl⟩ := Option.map_eq_some_iff.mp h2
      obtain ⟨es, e1, e2, e3⟩ := nkeys_rps s rs h3
      obtain ⟨b, hk⟩ := tnkD_rp s r1 h1
      refine ⟨(a, v1, v2) :: es, by rw [List.map_cons, e1], by rw [List.flatMap_cons, e2]; rfl, fun q hq => ?_⟩
      rcases List.mem_cons.mp hq with rfl | hq
      · exact ⟨hk, b⟩
      · exact e3 q hq
    · cases h
section
variable {X : Cx} {C : Cc} {W : WX} {pos : Pos} {keys : List (Option Expr)} {values : List Expr} {As : FA}
theorem be_dispN (hu : X.A.units + 64 < cLine) (hk : XC X C.toGc) (hp : BPs X C W pos keys values As) (hall : keys.all (·.isSome) = true) (hl : keys.length = values.length) (h0 : keys ≠ []) (h15 : keys.length ≤ 15) : BE X C W (.Dict keys values pos) (eDispN As) := by
  obtain ⟨trs, h1, h2⟩ := hp
  refine (pe_dispN hu h1 hall hl h0 h15).imp fun σ H Q ⟨e, Hs, fe, P, ok, q⟩ p hp => h2 σ _ _ ?_
  obtain ⟨k1, k2⟩ := Prod.mk.inj hk
  obtain ⟨k2, k3⟩ := Prod.mk.inj k2
  rw [k1, k2, k3]
  have n := New.obj (o := nDict C.P C.w p []) ok.sm hp
  have ok1 := ok.newN n
  have hold : Held (fun _ H' => H' p = some (nDict C.P C.w p [])) (fun b => if b = p then 1 else 0) Hs (upd H p (nDict C.P C.w p [])) :=
    ⟨upd_same, fun Hs' H' _ k => (k p (by rw [if_pos rfl]; omega)).1.trans upd_same, fun b hb => by
      by_cases z : b = p
      · rw [z, upd_same]; intro y; cases y
      · rw [if_neg z] at hb; exact absurd rfl hb⟩
  refine bindA ok1 hold (q.shift (n.aft ok)).bind fun as e2 vs Hs2 H2 fe2 fv2 a2 ok2 here r2 q2 => ?_
  cases hz : (dvs as).bind dispD with
  | none => rw [hz] at q2; exact q2.elim
  | some z =>
    rw [hz] at q2
    obtain ⟨ds, hd, hz⟩ := Option.bind_eq_some_iff.mp hz
    obtain ⟨ks, hks, hz⟩ := Option.bind_eq_some_iff.mp hz
    split at hz
    · rename_i hc
      cases hz
      have rs := r2.vals hd
      obtain ⟨es, rfl, rfl, facts⟩ := nkeys_rps ok2.sm rs hks
      have one := ok2.wf.one
      have p0 : fv2 p = 0 := by have := one p; rw [if_pos rfl] at this; omega
      have free : Hs2 p = none := ok2.wf.own p (by rw [if_pos rfl]; omega)
      obtain ⟨ok3, af⟩ := ok2.chg (o := nDict C.P C.w p es) (a := p) (by rw [if_pos rfl]; omega) (fun od u z => by rw [here] at z; cases z)
      have len : es.length ≤ 15 := by have h1 := rs.len; rw [nFlat_len] at h1; have := hc.2; omega
      refine ⟨es.map (·.2), by show _ = (es.map (·.2)).flatMap _; rw [List.flatMap_map], here, es, rfl, hc.1, facts, len, ?_⟩
      have af2 : Aft Hs (upd H p (nDict C.P C.w p [])) Hs2 (upd H2 p (nDict C.P C.w p es)) P := (a2.weak fun b hb => .inl hb).trans af
      exact q2 (.ref p) Hs2 _ fe2 _ af2 ok3 (.own (k := .dn _) ⟨es, ⟨rfl, hc.1, rfl⟩, upd_same⟩ rfl free (rs.mono (Same.refl _) fun b hb => ⟨upd_ne fun z => hb (z ▸ p0), (rs.live b hb).2⟩) fun b => Nat.add_comm _ _)
    · cases hz
end
/-! ### a method of a receiver that is known -/
structure Recv (X : Cx) (T : String) (Rv : V → Hp → Prop) : Prop where
  ty : ∀ {pins : List (Addr × Obj)} {σ : L2.St} {H : Hp} {s : Shared} {x : V} {v : Value}, Inv X pins σ H s → RelV x v → Rv x H → s.TypeIs v T ∧ ∀ a, v = .ref a → ∃ ob, s.heap.get? a = some ob ∧ ob.dict = none
def tMth (Rv : V → Hp → Prop) (r : V → List V → Hp → VK → Prop) (to : TE) (t : TA) : TE := fun σ H Q => to σ H fun x H1 => Rv x H1 ∧ t σ H1 fun xs H2 => r x xs H2 Q
theorem pe_mth {X : Cx} {o e : Expr} {es : List Expr} {apos cpos : Pos} {name : Str} {id T : String} {Rv : V → Hp → Prop} {r : V → List V → Hp → VK → Prop} {to : TE} {t : TA} (rc : Recv X T Rv) (hm : MtR X id r) (pa : PlainAttrs T) (slot : Slot T name id) (hty : typeOf (.builtin id) = pure (.type "method_descriptor"))
    (h1 : attributeBase o name X.env (eval o X.env) = eval o X.env)
    (h2 : ((backTo cpos (starEach (e :: es) X.env)).all (fun x => !x.1) && (backToKw cpos (keywordEach [] X.env)).all (fun x => x.1.isSome) && decide ((e :: es).length + ([] : List Keyword).length + (if ([] : List Keyword).isEmpty then 0 else 1) < 30)) = true)
    (h3 : (apos.endLine == cpos.line) = true) (h4 : starEach (e :: es) X.env = (false, eval e X.env) :: starEach es X.env) (h5 : (backTo cpos (starEach es X.env)).any (·.1) = false) (ho : PE X o to) (ha : PA X (e :: es) t) :
    PE X (.Call (.Attribute o name apos) (e :: es) [] cpos) (tMth Rv r to t) := by
  constructor
  intro pins s σ H Q I want
  have args : ∀ (v : Value) (x : V) (s1 : Shared) (H1 : Hp), Inv X pins σ H1 s1 → RelV x v → t σ H1 (fun xs H2 => r x xs H2 Q) → wpAny (model X.prog X.w) X.A (callWith cpos (.builtin id) [v] (backTo cpos (starEach (e :: es) X.env)) []) (EP X pins σ Q) X.xe s1 := fun v x s1 H1 I1 rx want => by
    have := ha.run cpos pins s1 σ H1 _ I1 want
    rw [h4] at this ⊢
    exact Calls.callWith_builtin h5 (Calls.evalArgs_plain (thn this fun us s2 ⟨xs, H2, I2, rs, q⟩ => hm pins s2 σ H2 x xs v us Q I2 rx rs q))
  refine wpAny_Call_method_late h1 h2 h3 rfl (thn (ho.run pins s σ H _ I want) ?_)
  rintro v s1 ⟨x, H1, I1, rx, rcv, want⟩
  exact ⟨T, id, pa, slot, hty, (rc.ty I1 rx rcv).1, (rc.ty I1 rx rcv).2, args v x s1 H1 I1 rx want⟩
end Bx

set_option Elab.async false
set_option linter.all false
set_option maxRecDepth 100000
set_option maxHeartbeats 1000000
/-! d.get(y, z), whatever d's keys are. -/
namespace Bx
open PySem L2
def rGetA (K : PySem.W.Frag) (P : Program) (w : World) : V → List V → Hp → VK → Prop := fun x xs H Q => ∃ a y z o, x = V.ref a ∧ xs = [y, z] ∧ (DGet H a y o ∨ NGet K P w H a y o) ∧ Q (o.getD z) H
theorem mt_getA {X : Cx} (hu : X.A.units + 64 < cLine) : MtR X "dict.get" (rGetA X.K X.prog X.w) := fun pins s σ H x xs v us Q I rx rs h => by
  obtain ⟨a, y, z, o, rfl, rfl, g, q⟩ := h
  cases rx
  cases rs with
  | cons ry rs =>
    cases rs with
    | cons rz rs =>
      cases rs
      rcases g with g | g
      · exact d_get2 (by omega) I g ry rz fun w' s' I' r => ⟨_, H, I', r, q⟩
      · exact get_ndict hu I g ry rz fun w' s' I' r => ⟨_, H, I', r, q⟩
def RvD (P : Program) (w : World) (x : V) (H : Hp) : Prop := ∃ a, x = V.ref a ∧ (IsD H a ∨ ∃ es, Rd H a (nDict P w a es))
theorem recvD {X : Cx} : Recv X "dict" (RvD X.prog X.w) := ⟨fun {pins σ H s x v} I rx h => by
  obtain ⟨a, rfl, h⟩ := h
  cases rx
  rcases h with h | ⟨es, h⟩
  · exact ⟨(isD_at I h).1, (isD_at I h).2.1⟩
  · obtain ⟨⟨_, _, xs, _, o, ds, ep, e1, e2, _⟩, _⟩ := (show ObjOk X.prog X.w H s.heap a (nDict X.prog X.w a es) from h.ok I.hok)
    refine ⟨⟨o, e1, e2.1⟩, fun b e => ?_⟩
    cases e
    exact ⟨o, e1, e2.2.1⟩⟩
/-- a dict's place of a key -/
def dposD : D → D → Option (Option Nat)
  | .nd k _ xs, y => match k with
    | .dk ks => (keyD y).map (kpos ks)
    | .dt ks => (tkeyD y).map (kpos ks)
    | .dn ks => if keysOk ks xs then (tnkD y).map fun k => (kpos ks k).map (2 * · + 1) else none
    | _ => none
  | _, _ => none
def Kd.isD : Kd → Bool
  | .dk _ => true
  | .dt _ => true
  | .dn _ => true
  | _ => false
def isDictD : D → Bool
  | .nd k _ _ => k.isD
  | _ => false
def getA (d y z : D) : Option D := match d with
  | .nd k o xs => (dposD (.nd k o xs) y).bind fun p => match p with
    | some j => xs[j]?
    | none => some z
  | _ => none
section
variable {G : Gc} {Hs H : Hp}
theorem dget_of {a : Addr} {vs : List V} {u : V} {k : Kd} {o : Bool} {xs : List D} {y : D} {g f : Fp} {p : Option Nat} (s : Sm Hs H) (at_ : AtR G Hs H a k vs o) (rs : Rps G Hs H vs xs f) (ry : Rp G Hs H u y g) (h : dposD (.nd k o xs) y = some p) :
    DGet H a u (p.bind (vs[·]?)) ∨ NGet G.K G.P G.w H a u (p.bind (vs[·]?)) := by
  unfold dposD at h
  cases k with
  | dk ks =>
    obtain ⟨key, h1, rfl⟩ := Option.map_eq_some_iff.mp h
    obtain ⟨hl, rd⟩ := dk_rd' s at_
    exact .inl (.inl ⟨_, key, rd, keyD_rp ry h1, (valV_kpos hl).symm⟩)
  | dt ks =>
    obtain ⟨key, h1, rfl⟩ := Option.map_eq_some_iff.mp h
    obtain ⟨hl, rd⟩ := dt_rd' s at_
    obtain ⟨b, e, hb⟩ := tkeyD_rp s ry h1
    exact .inl (.inr ⟨_, key, b, rd, e, hb, (valV_kpos hl).symm⟩)
  | dn ks =>
    dsimp only at h
    split at h
    · rename_i hc
      obtain ⟨key, h1, rfl⟩ := Option.map_eq_some_iff.mp h
      exact .inr (ndGet s at_ rs ry hc h1)
    · cases h
  | _ => cases h
theorem isD_rv {a : Addr} {vs : List V} {k : Kd} {o : Bool} (s : Sm Hs H) (at_ : AtR G Hs H a k vs o) (h : k.isD = true) : RvD G.P G.w (.ref a) H := by
  refine ⟨a, rfl, ?_⟩
  cases k with
  | dk ks => exact .inl (.inl ⟨_, (dk_rd' s at_).2⟩)
  | dt ks => exact .inl (.inr ⟨_, (dt_rd' s at_).2⟩)
  | dn ks => obtain ⟨es, _, rd⟩ := dn_rd' s at_; exact .inr ⟨es, rd⟩
  | _ => cases h
end
def eGetA (a : FE) (as : FA) : FE := fun e => (a e).bind fun d e1 => if isDictD d then (as e1).bind fun xs e2 => .opt ((dvs xs).bind fun ds => match ds with
  | [y, z] => getA (frz d) (frz y) z
  | _ => none) e2 else .bad
section
variable {X : Cx} {C : Cc} {W : WX} {pos : Pos} {a b c : Expr} {x : Expr} {Fa : FE} {As : FA}
theorem be_getA (hk : XC X C.toGc) (hp : ∀ to t, PE X a to → PA X [b, c] t → PE X x (tMth (RvD X.prog X.w) (rGetA X.K X.prog X.w) to t)) (ha : BE X C W a Fa) (hs : BA X C W [b, c] As) : BE X C W x (eGetA Fa As) :=
  (hp _ _ ha hs).imp fun σ H Q ⟨e, Hs, fe, P, ok, q⟩ => by
    obtain ⟨k1, k2⟩ := Prod.mk.inj hk
    obtain ⟨k2, k3⟩ := Prod.mk.inj k2
    rw [k1, k2, k3]
    refine firstE ok q.bind fun d e1 v Hs1 H1 fe1 fv1 a1 ok1 r1 q1 => ?_
    obtain ⟨Hs2, a2, ok2, r2, _⟩ := (ok1.fps (fun _ => rfl) (fx' := fun b => fv1 b + f0 b) fun _ => rfl).freeze r1
    have q2 := q1.shift (a1.trans a2)
    by_cases hd : isDictD d = true
    rotate_left
    · rw [if_neg hd] at q2; exact q2.elim
    rw [if_pos hd] at q2
    cases d with
    | nd k o xs =>
      rw [frz] at r2 q2
      have r0 := r2
      cases r2 with
      | @sh p _ vs _ _ at_ rs zf =>
      refine ⟨isD_rv ok2.sm (.sh ok2.sm at_) hd, ?_⟩
      refine bindA ok2 (.rp r0) q2.bind fun as e3 us Hs3 H3 fe3 fv3 a3 ok3 r0 r3 q3 => ?_
      have q3 := q3.shift (a3.weak fun b hb => .inl hb)
      cases hz : ((dvs as).bind fun ds => match ds with
        | [y, z] => getA (.nd k false (frzs xs)) (frz y) z
        | _ => none) with
      | none => rw [hz] at q3; exact q3.elim
      | some w =>
        rw [hz] at q3
        obtain ⟨ds, h1, h2⟩ := Option.bind_eq_some_iff.mp hz
        have rs3 := r3.vals h1
        split at h2
        · rename_i y z
          obtain ⟨pp, h3, h4⟩ := Option.bind_eq_some_iff.mp (show (dposD (.nd k false (frzs xs)) (frz y)).bind _ = some w from h2)
          cases rs3 with
          | @cons u1 _ g1 _ _ g2 _ r4 rs4 e4 =>
          cases rs4 with
          | @cons u2 _ g3 _ _ g4 _ r5 rs5 e5 =>
          cases rs5 with
          | nil z6 =>
          have e6 : ∀ b, fv3 b = g1 b + g3 b := fun b => by have := e4 b; have := e5 b; have := z6 b; omega
          obtain ⟨Hs4, a4, ok4, r6, _⟩ := (ok3.fps (fe' := fe3) (fx' := fun b => g1 b + g3 b) (fun _ => rfl) fun b => by show _ = f0 b + fv3 b; rw [e6 b]; simp [f0]).freeze r4
          have r5' := r5.mono a4.sh fun b hb => ⟨rfl, ok4.wf.own b (by show fe3 b + g3 b ≠ 0; omega)⟩
          have r0' := r0.mono a4.sh (H' := H3) fun b hb => absurd rfl hb
          cases r0' with
          | @sh _ _ vs' _ _ at' rs' zf' =>
          have found := dget_of (G := C.toGc) ok4.sm (.sh ok4.sm at') rs' r6 h3
          refine ⟨_, u1, u2, _, rfl, rfl, found, ?_⟩
          cases pp with
          | none =>
            cases h4
            exact q3.shift (a4.weak fun b hb => hb) u2 Hs4 H3 fe3 g3 (Aft.refl _ _ _) ok4 r5'
          | some j =>
            obtain ⟨v', hv', rv'⟩ := (rs'.fp (f' := f0) fun b => (zf' b).symm).at (show (frzs xs)[j]? = some w from h4)
            rw [Option.bind_some, hv', Option.getD_some]
            exact q3.shift (a4.weak fun b hb => hb) v' Hs4 H3 fe3 f0 (Aft.refl _ _ _) (ok4.less fun _ => Nat.zero_le _) rv'
        · cases h2
    | _ => cases hd
end
/-- dict.get by the layer's own method rule -/
theorem pcGet {X : Cx} {o b c : Expr} {apos pos : Pos} (hu : X.A.units + 64 < cLine) (h1 : attributeBase o "get" X.env (eval o X.env) = eval o X.env)
    (h2 : ((backTo pos (starEach [b, c] X.env)).all (fun x => !x.1) && (backToKw pos (keywordEach [] X.env)).all (fun x => x.1.isSome) && decide (([b, c] : List Expr).length + ([] : List Keyword).length + (if ([] : List Keyword).isEmpty then 0 else 1) < 30)) = true)
    (h3 : (apos.endLine == pos.line) = true) (h4 : starEach [b, c] X.env = (false, eval b X.env) :: starEach [c] X.env) (h5 : (backTo pos (starEach [c] X.env)).any (·.1) = false) :
    ∀ to t, PE X o to → PA X [b, c] t → PE X (.Call (.Attribute o "get" apos) [b, c] [] pos) (tMth (RvD X.prog X.w) (rGetA X.K X.prog X.w) to t) := fun _ _ ho ha => pe_mth recvD (mt_getA hu) PySem.F.plainAttrs_dict PySem.F.slot_dict_get PySem.F.type_dict_get h1 h2 h3 h4 h5 ho ha
end Bx

set_option Elab.async false
set_option linter.all false
set_option maxRecDepth 100000
set_option maxHeartbeats 1000000
/-! Walks over the keys of a dict; the dict is locked and stays so. -/
namespace Bx
open PySem L2
/-- the value at hand is locked, if it is not yet -/
def tLk (t : TE) : TE := fun σ H Q => t σ H fun v H1 => ∃ d, v = V.ref d ∧ ((∃ u, H1 d = some u ∧ Mut (some u) ∧ ∀ od, Q v (upd H1 d (.frz od u))) ∨ ∃ od u, H1 d = some (.frz od u) ∧ Q v H1)
theorem pe_lk {X : Cx} {a : Expr} {t : TE} (h : PE X a t) : PE X a (tLk t) := ⟨fun pins s σ H Q I want => thn (h.run pins s σ H _ I want) fun v s1 ⟨x, H1, I1, rx, d, ex, c⟩ => by
  subst ex
  rcases c with ⟨u, hd, mu, q⟩ | ⟨od, u, _, q⟩
  · obtain ⟨od, I2⟩ := I1.lock hd mu
    exact ⟨_, _, I2, rx, q od⟩
  · exact ⟨_, _, I1, rx, q⟩⟩
/-- the keys of a locked dict with nested keys, one by one -/
def ItN (P : Program) (w : World) (d : Addr) (o : Obj) (es : NEs) : It where
  go i H := H d = some (.frz o (nDict P w d es)) ∧ i < es.length
  yld i H v H' := H' = H ∧ ∃ p, es[i]? = some p ∧ v = p.2.1
  stop i H := H d = some (.frz o (nDict P w d es)) ∧ i = es.length
theorem NRel.nth {es : NEs} {xs : List (NestedKey × Addr × Value)} (r : Paired NRel es xs) : ∀ {i : Nat} {p : NestedKey × V × V}, es[i]? = some p → ∃ q, xs[i]? = some q ∧ p.2.1 = V.ref q.2.1 := by
  induction r with
  | nil => intro i p h; simp at h
  | @cons p0 q0 es xs r t ih =>
    intro i p h
    cases i with
    | zero => cases h; exact ⟨q0, rfl, r.2.1⟩
    | succ i => simpa using ih (i := i) (by simpa using h)
section
variable {X : Cx} {pins : List (Addr × Obj)} {σ : L2.St} {H : Hp} {s : Shared} {d : Addr} {o : Obj} {es : NEs}
/-- a locked dict's own object -/
theorem ndLocked (I : Inv X pins σ H s) (h : H d = some (.frz o (nDict X.prog X.w d es))) : (d == sysModules) = false ∧ s.heap.get? d = some o ∧ ∃ ds ep, s.heap.DictRaw d ds ep ∧ o.data = .dict ds ep ∧ ds.size = es.length ∧
    ∀ (i : Nat) p (hi : i < ds.size), es[i]? = some p → RelV p.2.1 ds[i].key := by
  obtain ⟨ho, ⟨h1, _, xs, rel, o', ds, ep, e1, e2, e3, e4, _⟩, _⟩ := (show ObjOk X.prog X.w H s.heap d (.frz o (nDict X.prog X.w d es)) from I.hok d _ h)
  rw [ho] at e1
  cases e1
  refine ⟨h1, ho, ds, ep, ⟨o, ho, e2, e3⟩, e3, by rw [size_of_entries e4, Paired.length rel], fun i p hi hp => ?_⟩
  obtain ⟨q, hq, e⟩ := NRel.nth rel hp
  have z := entry_at e4 i
  rw [hq, Array.getElem?_eq_getElem hi] at z
  rw [Option.some.inj z, e]; rfl
theorem turnN {P : Program} {w : World} {K : PySem.W.Frag} {tg : Expr} {d it : Addr} {o : Obj} {ds : Array DictEntry} {ep : Nat} (ne : d ≠ it) (hod : o.data = .dict ds ep) : Turn P w K tg (ItN P w d o es) [it] it (fun i h => h.IsKeyIter it d i ds.size ep) where
  mem := List.mem_cons_self
  obj i h st b hb := by
    rw [List.mem_singleton.mp hb]
    obtain ⟨oi, e, _, dd⟩ := st
    exact ⟨oi, e, fun v z => nomatch dd.symm.trans z⟩
  keep i h h' st k := st.at fun oi e => k it (by simp) oi e
  item := by
    rintro X rfl rfl rfl calm i pins s σ H E I own st ⟨hd, hi⟩
    obtain ⟨_, ho, ds', ep', raw, dat, size, rel⟩ := ndLocked I hd
    rw [hod] at dat
    cases dat
    obtain ⟨p, hp⟩ : ∃ p, es[i]? = some p := ⟨_, List.getElem?_eq_getElem hi⟩
    refine (Goes.rawKeys (target := tg) (I.ok.hd calm) it d ne ds ep).goes i s _ E (by rw [size]; exact hi) ⟨st, raw⟩ ?_
    rintro v h' tk ⟨lt, rfl⟩ ⟨st', _⟩ rest -
    exact ⟨p.2.1, H, I.turnedL rest own, rel i p lt hp, ⟨rfl, p, hp, rfl⟩, st', fun b hb => (own b hb).1⟩
  done := by
    rintro X rfl rfl rfl calm i pins s σ H E I own st ⟨hd, hi⟩
    obtain ⟨_, ho, ds', ep', raw, dat, size, _⟩ := ndLocked I hd
    rw [hod] at dat
    cases dat
    refine (Goes.rawKeys (target := tg) (I.ok.hd calm) it d ne ds ep).stops s _ E (by rw [size, ← hi]; rw [hi, ← size] at st ⊢; exact ⟨st, raw⟩) fun h' tk rest _ => I.turnedL rest own
  self A i s Q E st k := wpAny_pyIter_keyiter st k
/-- for k in d: the dict locked -/
def iKeysN (P : Program) (w : World) (td : TE) : TI := fun σ H R => td σ H fun x H1 => ∃ d o es, x = V.ref d ∧ H1 d = some (.frz o (nDict P w d es)) ∧ R (ItN P w d o es) H1
theorem pi_keysN {tg a : Expr} {td : TE} (ha : PE X a td) : PI X tg a (iKeysN X.prog X.w td) := ⟨fun pins s σ H R I want => by
  refine thn (ha.run pins s σ H _ I want) ?_
  rintro u s1 ⟨x, H1, I1, rx, d, o, es, rfl, hd, q⟩
  cases rx
  obtain ⟨h1, ho, ds, ep, raw, dat, size, _⟩ := ndLocked I1 hd
  refine wpAny_pyIter_dict_raw h1 raw (pi_one (tk := s1.toks) I1 _ (turnN (Nat.ne_of_lt (Heap.lt_size ho)) dat) ?_ q)
  exact ⟨_, Heap.get?_push_size _ rfl, rfl, rfl⟩⟩
end
end Bx

set_option Elab.async false
set_option linter.all false
set_option maxRecDepth 100000
set_option maxHeartbeats 1000000
/-! for k in d, as data. -/
namespace Bx
open PySem L2
def keyAsD : Key → D
  | .inl i => .int i
  | .inr x => .str x
/-- the keys' own data: every other item -/
def keysOf : List D → List D
  | k :: _ :: r => k :: keysOf r
  | _ => []
def keysOfD : D → Option (List D)
  | .nd k _ xs => match k with
    | .dk ks => some (ks.map keyAsD)
    | .dn ks => if keysOk ks xs then some (keysOf xs) else none
    | _ => none
  | _ => none
/-- for .. in a dict -/
def iK (a : FE) : FI := fun e => (a e).bind fun d e1 => .opt (keysOfD (frz d)) e1
section
variable {C : Cc} {Hs H : Hp} {σ : L2.St} {e : En} {fe : Fp} {P : Addr → Prop}
/-- a frozen dict is locked, or is so already -/
theorem Ok.lock {p : Addr} {u : HO} (ok : Ok C Hs H σ e fe f0 P) (hu : Hs p = some u) (lk : Lk u) (mu : Mut (some u)) {T : Hp → Prop} (q : ∀ od H2, H2 p = some (.frz od u) → Aft Hs H Hs H2 P → Ok C Hs H2 σ e fe f0 P → T H2) :
    (∃ u', H p = some u' ∧ Mut (some u') ∧ ∀ od, T (upd H p (.frz od u'))) ∨ ∃ od u', H p = some (.frz od u') ∧ T H := by
  rcases ok.sm p u hu with h | ⟨_, od, h⟩
  · refine .inl ⟨u, h, mu, fun od => q od _ upd_same ?_ ?_⟩
    · refine ⟨Same.refl _, fun b _ hn => ⟨upd_ne fun z => (by rw [z, hu] at hn; cases hn), hn⟩, fun b hb => ?_, fun b od' u' hb => (upd_ne fun z => ?_).trans hb⟩
      · by_cases z : b = p
        · rw [z, upd_same] at hb; cases hb
        · rw [upd_ne z] at hb; exact hb
      · rw [z, h] at hb
        cases hb
        exact lk
    · refine ⟨⟨fun b o hb => ?_, ok.wf.one, ok.wf.own, ok.wf.apart, fun b hb z => ok.wf.live b hb ?_⟩, ok.sl.mono (Same.refl _) fun b hb => ?_, ok.pn, ok.ex.mono (Same.refl _)⟩
      · by_cases z : b = p
        · rw [z, hu] at hb
          cases hb
          exact .inr ⟨lk, od, by rw [z]; exact upd_same⟩
        · rw [upd_ne z]; exact ok.sm b o hb
      · by_cases y : b = p
        · rw [y, upd_same] at z; cases z
        · rw [upd_ne y] at z; exact z
      · have n := (ok.sl.live b hb).2
        exact ⟨upd_ne fun z => (by rw [z, hu] at n; cases n), n⟩
  · exact .inr ⟨od, u, h, q od H h (Aft.refl _ _ _) ok⟩
end
section
variable {G : Gc} {Hs : Hp} {L : Hp → Prop}
theorem jok_dk {p : Addr} {o : Obj} {kvs : List (Key × V)} (l : ∀ H2, L H2 → H2 p = some (.frz o (.dK kvs))) : JOk G (Itk p o kvs) ((kvs.map (·.1)).map keyAsD) Hs L := by
  refine ⟨fun Hs2 H2 _ _ h => ⟨l H2 h, by simp⟩, fun Hs2 H2 i d _ _ h e => ⟨l H2 h, ?_⟩, fun Hs2 H2 i d x H' _ m _ e y => ?_⟩
  · have := (List.getElem?_eq_some_iff.mp e).1
    simpa using this
  · obtain ⟨rfl, k, v, hk, rfl⟩ := y
    rw [List.getElem?_map, List.getElem?_map, hk] at e
    cases e
    cases k with
    | inl i => exact ⟨Hs2, New.refl m, r_int _⟩
    | inr z => exact ⟨Hs2, New.refl m, r_str _⟩
theorem keysOf_rps {H : Hp} : ∀ {es : NEs} {xs : List D}, Rps G Hs H (es.flatMap fun p => [p.2.1, p.2.2]) xs f0 → (keysOf xs).length = es.length ∧ ∀ (i : Nat) p d, es[i]? = some p → (keysOf xs)[i]? = some d → Rp G Hs H p.2.1 d f0
  | [], _, .nil _ => ⟨rfl, fun i p d h => by simp at h⟩
  | q :: es, xs, r => by
    rw [List.flatMap_cons] at r
    cases r with
    | cons r1 rs e1 =>
      cases rs with
      | cons r2 rs e2 =>
        have z : ∀ b, (f0 : Fp) b = 0 := fun _ => rfl
        obtain ⟨l, k⟩ := keysOf_rps (rs.fp (f' := f0) fun b => by have := e1 b; have := e2 b; simp only [f0] at *; omega)
        refine ⟨by show _ + 1 = _ + 1; rw [l], fun i p d hp hd => ?_⟩
        cases i with
        | zero => cases hp; cases hd; exact r1.fp fun b => by have := e1 b; simp only [f0] at *; omega
        | succ i => exact k i p d (by simpa using hp) (by simpa [keysOf] using hd)
theorem jok_dn {P : Program} {w : World} {p : Addr} {o : Obj} {es : NEs} {xs : List D} (l : ∀ H2, L H2 → H2 p = some (.frz o (nDict P w p es))) (rs : ∀ Hs2 H2, Same Hs Hs2 → Rps G Hs2 H2 (es.flatMap fun p => [p.2.1, p.2.2]) xs f0) : JOk G (ItN P w p o es) (keysOf xs) Hs L := by
  refine ⟨fun Hs2 H2 s _ h => ⟨l H2 h, (keysOf_rps (rs Hs2 H2 s)).1⟩, fun Hs2 H2 i d s _ h e => ⟨l H2 h, ?_⟩, fun Hs2 H2 i d x H' s m _ e y => ?_⟩
  · rw [← (keysOf_rps (rs Hs2 H2 s)).1]; exact (List.getElem?_eq_some_iff.mp e).1
  · obtain ⟨rfl, q, hq, rfl⟩ := y
    exact ⟨Hs2, New.refl m, (keysOf_rps (rs Hs2 H' s)).2 i q d hq e⟩
end
section
variable {X : Cx} {C : Cc} {W : WX} {a tg : Expr} {Fa : FE}
def isDn : D → Bool
  | .nd (.dn _) _ _ => true
  | _ => false
theorem bi_keys (hk : XC X C.toGc) (ha : BE X C W a Fa) : BI X C W tg a (iK Fa) :=
  (PI.or (pi_keys (pe_lk ha)) (pi_keysN (pe_lk ha))).imp fun σ H R ⟨e, Hs, fe, P, ok, q⟩ => by
    obtain ⟨k1, k2⟩ := Prod.mk.inj hk
    obtain ⟨k2, k3⟩ := Prod.mk.inj k2
    have qz := EndI.bind q
    by_cases nested : ∃ d e1, Fa e = .ok d e1 ∧ isDn d = true
    · refine .inr (firstE ok qz fun d e1 v Hs1 H1 fe1 fv1 a1 ok1 r1 ⟨hd, q1⟩ => ?_)
      obtain ⟨d', e', h1, h2⟩ := nested
      rw [h1] at hd
      injection hd with hd he
      subst hd he
      obtain ⟨Hs2, a2, ok2, r2, _⟩ := (ok1.fps (fun _ => rfl) (fx' := fun b => fv1 b + f0 b) fun _ => rfl).freeze r1
      have q2 := q1.shift (a1.trans a2)
      cases d' with
      | nd kd od xs =>
        cases kd with
        | dn ks =>
          rw [frz] at r2 q2
          cases r2 with
          | @sh p _ vs _ _ at_ rs z =>
          obtain ⟨es, ⟨rfl, nd, rfl⟩, hp⟩ := at_
          simp only [keysOfD] at q2
          split at q2
          · rename_i hc
            refine ⟨p, rfl, Ok.lock (u := nDict C.P C.w p es) (T := fun H1 => ∃ d o es, V.ref p = V.ref d ∧ H1 d = some (.frz o (nDict X.prog X.w d es)) ∧ R (ItN X.prog X.w d o es) H1) ok2 hp True.intro True.intro fun o H2 l a3 ok3 => ⟨p, o, es, rfl, by rw [k2, k3]; exact l, ?_⟩⟩
            have r0 : ∀ Hs3 H3, Same Hs2 Hs3 → Rps C.toGc Hs3 H3 (es.flatMap fun p => [p.2.1, p.2.2]) (frzs xs) f0 := fun Hs3 H3 s => (rs.mono s fun b hb => absurd (z b) hb).fp fun b => (z b).symm
            rw [k2, k3]
            exact (q2.shift a3) _ Hs2 H2 fe1 P (fun _ h => h) (Aft.refl _ _ _) ok3 (jok_dn (fun H4 h => h p o _ l) r0)
          · exact q2.elim
        | _ => cases h2
      | _ => cases h2
    · refine .inl (firstE ok qz fun d e1 v Hs1 H1 fe1 fv1 a1 ok1 r1 ⟨hd, q1⟩ => ?_)
      obtain ⟨Hs2, a2, ok2, r2, _⟩ := (ok1.fps (fun _ => rfl) (fx' := fun b => fv1 b + f0 b) fun _ => rfl).freeze r1
      have q2 := q1.shift (a1.trans a2)
      cases d with
      | nd kd od xs =>
        cases kd with
        | dk ks =>
          rw [frz] at r2 q2
          cases r2 with
          | @sh p _ vs _ _ at_ rs z =>
          refine ⟨p, rfl, Ok.lock (u := .dK (ks.zip vs)) (T := fun H1 => ∃ d o, V.ref p = V.ref d ∧ ((∃ kvs, H1 d = some (.frz o (.dK kvs)) ∧ R (Itk d o kvs) H1) ∨ ∃ kvs, H1 d = some (.frz o (.dT kvs)) ∧ R (Itkt d o kvs) H1)) ok2 at_.2 True.intro True.intro fun o H2 l a3 ok3 => ⟨p, o, rfl, .inl ⟨ks.zip vs, l, ?_⟩⟩⟩
          have e2 : ks = (ks.zip vs).map (·.1) := (List.map_fst_zip (Nat.le_of_eq at_.1.1)).symm
          have j : JOk C.toGc (Itk p o (ks.zip vs)) (ks.map keyAsD) Hs2 (fun H4 => ∀ b od u, H2 b = some (.frz od u) → H4 b = some (.frz od u)) := by
            have := jok_dk (G := C.toGc) (Hs := Hs2) (L := fun H4 => ∀ b od u, H2 b = some (.frz od u) → H4 b = some (.frz od u)) (p := p) (o := o) (kvs := ks.zip vs) fun H4 h => h p o _ l
            rw [← e2] at this
            exact this
          exact (q2.shift a3) _ Hs2 H2 fe1 P (fun _ h => h) (Aft.refl _ _ _) ok3 j
        | dn ks => exact absurd ⟨_, _, hd, rfl⟩ nested
        | _ => exact q2.elim
      | _ => exact q2.elim
end
end Bx

set_option Elab.async false
set_option linter.all false
set_option maxRecDepth 100000
set_option maxHeartbeats 1000000
/-! {k: v for .. in ..}, the keys numbers or texts and each once. -/
namespace Bx
open PySem L2
def dcL (vs : List Nat) (g : FG) (tt : FT) (ke ve : FE) : List D → List (Key × D) → En → Rs (List (Key × D))
  | [], acc, e => .ok acc e
  | x :: xs, acc, e => match g x e with
    | none => .bad
    | some e1 => (tt e1).nox.bind fun k e2 => if k then (ke e2).nox.bind fun y e3 => (ve e3).nox.bind fun z e4 => (match keyD y with
      | some key => if acc.length < lim ∧ kpos (acc.map (·.1)) key = none then dcL vs g tt ke ve xs (acc ++ [(key, z)]) (delL e4 vs) else .bad
      | none => .bad) else dcL vs g tt ke ve xs acc (delL e2 vs)
/-- a new pair, and on -/
def dcNew (vs : List Nat) (g : FG) (tt : FT) (ke ve : FE) (xs : List D) (acc : List (Key × D)) (y z : D) (e4 : En) : Rs (List (Key × D)) := match keyD y with
  | some key => if acc.length < lim ∧ kpos (acc.map (·.1)) key = none then dcL vs g tt ke ve xs (acc ++ [(key, z)]) (delL e4 vs) else .bad
  | none => .bad
def eDc (vs : List Nat) (it : FI) (g : FG) (tt : FT) (ke ve : FE) : FE := fun e => (it e).bind fun xs e1 => (dcL vs g tt ke ve xs [] (delL e1 vs)).bind fun acc e2 => .ok (.nd (.dk (acc.map (·.1))) true (acc.map (·.2))) e2
/-- where a comprehension stands: acc is made so far, at D -/
structure DcSt (C : Cc) (W : WX) (vs : List Nat) (g : FG) (tt : FT) (ke ve : FE) (xs : List D) (σ : L2.St) (Hs1 H1 : Hp) (P : Addr → Prop) (Dd : Addr) (Z : List (Key × D) → En → Prop) (i : Nat) (H : Hp) : Prop where
  ex : ∃ (acc : List (Key × D)) (e : En) (Hs : Hp) (fe fa : Fp) (va : List V), Aft Hs1 H1 Hs H P ∧ Ok C Hs H (wipe σ vs) (delL e vs) fe (fun b => fa b + if b = Dd then 1 else 0) P ∧ (H Dd = some (.dK ((acc.map (·.1)).zip va)) ∧ (acc.map (·.1)).Nodup) ∧ Rps C.toGc Hs H va (acc.map (·.2)) fa ∧
    EndZ C W (dcL vs g tt ke ve (xs.drop i) acc (delL e vs)) Hs H P σ Z

theorem dc_main {H0 : Hp} {C : Cc} {W : WX} {vs : List Nat} {ts : List Nat} {g : FG} {tt : FT} {ke ve : FE} {xs : List D} {σ : L2.St} {Hs1 H1 : Hp} {P : Addr → Prop} {Dd : Addr} {Z : List (Key × D) → En → Prop} {J : It} {QD : Hp → Prop}
    (hts : ∀ i ∈ ts, i ∈ vs) (hv : ∀ p ∈ C.pins, p.1 ∉ vs) (j : JOk C.toGc J xs Hs1 fun H2 => ∀ b od u, H0 b = some (.frz od u) → H2 b = some (.frz od u)) (e0 : ∀ b od u, H0 b = some (.frz od u) → H1 b = some (.frz od u)) (st : DcSt C W vs g tt ke ve xs σ Hs1 H1 P Dd Z 0 H1)
    (fin : ∀ acc e Hs H fe fa va, Aft Hs1 H1 Hs H P → Ok C Hs H (wipe σ vs) (delL e vs) fe (fun b => fa b + if b = Dd then 1 else 0) P → (H Dd = some (.dK ((acc.map (·.1)).zip va)) ∧ (acc.map (·.1)).Nodup) → Rps C.toGc Hs H va (acc.map (·.2)) fa → Z acc (delL e vs) → QD H) :
    ∃ Wn : Nat → Nat → Hp → Prop, (∃ m, Wn 0 m H1) ∧ ∀ i m H, Wn i m H →
      (J.stop i H ∧ QD H) ∨ (J.go i H ∧ ∃ Nx : Hp → Prop, (∀ H', Nx H' → ∃ m', m' < m ∧ Wn (i + 1) m' H') ∧ ∀ x H', J.yld i H x H' → canG C ts g x (wipe σ vs) H' fun σ2 H2 => wipe σ2 vs = wipe σ vs ∧ canT C W0 tt σ2 H2 fun b H3 =>
        if b = true then canE C W0 ke σ2 H3 fun y H4 => canE C W0 ve σ2 H4 fun z H5 => ∃ kvs k, y = kV k ∧ H5 Dd = some (.dK kvs) ∧ kvs.length < sizeLine ∧ Nx (upd H5 Dd (.dK (putK kvs k z))) else Nx H3) := by
  refine ⟨fun i m H => i + m = xs.length ∧ DcSt C W vs g tt ke ve xs σ Hs1 H1 P Dd Z i H, ⟨xs.length, by omega, st⟩, ?_⟩
  rintro i m H ⟨hm, ⟨acc, e, Hs, fe, fa, va, a2, ok2, hD, ra, q2⟩⟩
  have lk : ∀ b od u, H0 b = some (.frz od u) → H b = some (.frz od u) := fun b od u hb => a2.lk b od u (e0 b od u hb)
  by_cases hlt : i < xs.length
  · obtain ⟨d, hd⟩ : ∃ d, xs[i]? = some d := ⟨_, List.getElem?_eq_getElem hlt⟩
    have ed : xs.drop i = d :: xs.drop (i + 1) := by
      rw [List.drop_eq_getElem_cons hlt]
      rw [List.getElem?_eq_getElem hlt] at hd
      rw [Option.some.inj hd]
    rw [ed] at q2
    unfold dcL at q2
    refine .inr ⟨j.go Hs H i d a2.sh ok2.sm lk hd, fun H' => i + 1 + (m - 1) = xs.length ∧ DcSt C W vs g tt ke ve xs σ Hs1 H1 P Dd Z (i + 1) H', fun H' h => ⟨m - 1, by omega, h⟩, fun x H' y => ?_⟩
    -- the list made so far is held
    have hR : Held (fun Hs' H' => H' Dd = some (.dK ((acc.map (·.1)).zip va)) ∧ Rps C.toGc Hs' H' va (acc.map (·.2)) fa) (fun b => fa b + if b = Dd then 1 else 0) Hs H :=
      ⟨⟨hD.1, ra⟩, fun Hs' H' s k => ⟨(k Dd (by rw [if_pos rfl]; omega)).1.trans hD.1, ra.mono s fun b hb => k b (by omega)⟩, fun b hb => by
        by_cases z : b = Dd
        · rw [z, hD.1]; intro z; cases z
        · rw [if_neg z] at hb; exact (ra.live b (by omega)).1⟩
    obtain ⟨Hs3, n3, r3⟩ := j.yld Hs H i d x H' a2.sh ok2.sm lk hd y
    have af3 : Aft Hs H Hs3 H' (fun b => P b ∨ fa b + (if b = Dd then 1 else 0) ≠ 0) := n3.aft (ok2.holdR hR)
    have okH := ok2.holdR hR
    have okH3 : Ok C Hs3 H' (wipe σ vs) (delL e vs) fe f0 (fun b => P b ∨ fa b + (if b = Dd then 1 else 0) ≠ 0) := (okH.new n3 fun _ h => absurd rfl h).fps (fun _ => rfl) fun _ => rfl
    have hold3 := hR.on ok2 af3
    cases hgx : g d (delL e vs) with
    | none => rw [hgx] at q2; exact q2.elim
    | some e4 =>
      rw [hgx] at q2
      dsimp only at q2
      refine ⟨delL e vs, Hs3, fe, f0, _, d, e4, okH3, r3, hgx, fun σ5 Hs5 H5 fe5 t5 a5 ok5 => ⟨wipe_tch t5 hts, ?_⟩⟩
      have af5 := af3.trans a5
      have hold5 := hR.on ok2 af5
      -- the test
      have q5 : EndZ C W0 (tt e4) Hs5 H5 (fun b => P b ∨ fa b + (if b = Dd then 1 else 0) ≠ 0) σ5 fun k e2 => EndZ C W (if k then (ke e2).nox.bind fun y e3 => (ve e3).nox.bind fun z e4 => dcNew vs g tt ke ve (xs.drop (i + 1)) acc y z e4 else dcL vs g tt ke ve (xs.drop (i + 1)) acc (delL e2 vs)) Hs H P σ Z := by
        cases h : tt e4 with
        | bad => rw [h] at q2; exact q2.elim
        | exc x e => rw [h] at q2; exact q2.elim
        | ok k e2 => rw [h] at q2; exact q2
      refine firstT ok5 q5 fun k e6 Hs6 H6 fe6 a6 ok6 q6 => ?_
      have af6 := af5.trans a6
      have hold6 := hR.on ok2 af6
      -- the turn's end
      have turn : ∀ (acc' : List (Key × D)) (e' : En) (Hs' H'' : Hp) (fe' fa' : Fp) (va' : List V) (σ' : L2.St), σ'.length = (wipe σ vs).length → (∀ i, i ∉ vs → σ'[i]? = (wipe σ vs)[i]?) → Aft Hs H Hs' H'' P → Ok C Hs' H'' σ' e' fe' (fun b => fa' b + if b = Dd then 1 else 0) P → (H'' Dd = some (.dK ((acc'.map (·.1)).zip va')) ∧ (acc'.map (·.1)).Nodup) → Rps C.toGc Hs' H'' va' (acc'.map (·.2)) fa' →
          EndZ C W (dcL vs g tt ke ve (xs.drop (i + 1)) acc' (delL e' vs)) Hs H P σ Z → i + 1 + (m - 1) = xs.length ∧ DcSt C W vs g tt ke ve xs σ Hs1 H1 P Dd Z (i + 1) H'' := by
        intro acc' e' Hs' H'' fe' fa' va' σ' hl' ho' af' ok' hD' ra' q'
        obtain ⟨fe2, ok2'⟩ := ok'.delL vs
        refine ⟨by omega, ⟨acc', e', Hs', fe2, fa', va', a2.trans af', ?_, hD', ra', ?_⟩⟩
        · exact ok2'.frame hl'.symm (fun i d h => (ho' i fun z => delL_at z d h).symm) fun p hp => (ho' p.1 (hv p hp)).symm
        · cases hr : dcL vs g tt ke ve (xs.drop (i + 1)) acc' (delL e' vs) with
          | bad => rw [hr] at q'; exact q'
          | ok a b => rw [hr] at q'; exact q'
          | exc x b => rw [hr] at q'; exact XcK.shift q' af'
      have t5' : σ5.length = (wipe σ vs).length ∧ ∀ i, i ∉ vs → σ5[i]? = (wipe σ vs)[i]? := ⟨t5.1, fun i hi => t5.2 i fun z => hi (hts i z)⟩
      cases k with
      | false =>
        refine iteF ?_
        have okb : Ok C Hs6 H6 σ5 e6 fe6 (fun b => (fa b + if b = Dd then 1 else 0) + f0 b) P := ok6.back (fun b => by have := ok2.wf.one b; omega) (fun b hb => by have := ok2.wf.apart b hb; omega) (fun b hb => ok2.wf.own b (by omega)) af6
        exact turn acc e6 Hs6 H6 fe6 fa va σ5 t5'.1 t5'.2 (af6.weak fun b hb => .inl hb) (okb.fps (fun _ => rfl) fun _ => rfl) ⟨hold6.1, hD.2⟩ hold6.2 q6
      | true =>
        refine iteT ?_
        have q7 : EndZ C W0 (ke e6) Hs6 H6 (fun b => P b ∨ fa b + (if b = Dd then 1 else 0) ≠ 0) σ5 fun y e3 => EndZ C W ((ve e3).nox.bind fun z e4 => dcNew vs g tt ke ve (xs.drop (i + 1)) acc y z e4) Hs H P σ Z := by
          cases h : ke e6 with
          | bad => simp only [if_true] at q6; rw [h] at q6; exact q6.elim
          | exc x e => simp only [if_true] at q6; rw [h] at q6; exact q6.elim
          | ok k e2 => simp only [if_true] at q6; rw [h] at q6; exact q6
        refine firstE ok6 q7 fun y e7 v7 Hs7 H7 fe7 fv7 a7 ok7 r7 q7 => ?_
        have af7 := af6.trans a7
        have hold7 := hR.on ok2 af7
        have q8 : EndZ C W0 (ve e7) Hs7 H7 (fun b => P b ∨ fa b + (if b = Dd then 1 else 0) ≠ 0) σ5 fun z e4 => EndZ C W (dcNew vs g tt ke ve (xs.drop (i + 1)) acc y z e4) Hs H P σ Z := by
          cases h : ve e7 with
          | bad => rw [h] at q7; exact q7.elim
          | exc x e => rw [h] at q7; exact q7.elim
          | ok k e2 => rw [h] at q7; exact q7
        refine firstE (ok7.less (fx' := f0) fun _ => Nat.zero_le _) q8 fun z e8 v8 Hs8 H8 fe8 fv8 a8 ok8 r8 q8 => ?_
        have af8 := af7.trans a8
        have hold8 := hR.on ok2 af8
        unfold dcNew at q8
        cases hk : keyD y with
        | none => rw [hk] at q8; exact q8.elim
        | some key =>
        rw [hk] at q8
        dsimp only at q8
        by_cases hl : acc.length < lim ∧ kpos (acc.map (·.1)) key = none
        · rw [if_pos hl] at q8
          have len : (acc.map (·.1)).length = va.length := by rw [ra.len]; simp
          refine ⟨(acc.map (·.1)).zip va, key, keyD_rp r7 hk, hold8.1, by rw [List.length_zip, ← len, Nat.min_self, List.length_map]; exact lim_lt (Nat.le_of_lt hl.1), ?_⟩
          rw [putK_fresh len hl.2]
          have okb : Ok C Hs8 H8 σ5 e8 fe8 (fun b => (fa b + if b = Dd then 1 else 0) + fv8 b) P := ok8.back (fun b => by have := ok2.wf.one b; omega) (fun b hb => by have := ok2.wf.apart b hb; omega) (fun b hb => ok2.wf.own b (by omega)) af8
          have nD : Hs8 Dd = none := okb.wf.own Dd (by rw [if_pos rfl]; omega)
          have onD := okb.wf.one Dd
          rw [if_pos rfl] at onD
          generalize ho : HO.dK ((acc.map (·.1) ++ [key]).zip (va ++ [v8])) = ob
          have ne : ∀ b, (fe8 b ≠ 0 ∨ fa b ≠ 0 ∨ fv8 b ≠ 0) → b ≠ Dd := fun b hb z => by subst z; omega
          have up : ∀ b, b ≠ Dd → (upd H8 Dd ob) b = H8 b := fun b hb => upd_ne hb
          have afU : Aft Hs8 H8 Hs8 (upd H8 Dd ob) P := ⟨Same.refl _, fun b hb hn => ⟨up b fun z => by have := okb.wf.apart b hb; rw [if_pos z] at this; omega, hn⟩, fun b hb => by
            by_cases z : b = Dd
            · rw [z, upd_same] at hb; cases hb
            · rw [up b z] at hb; exact hb, fun b od u hb => (up b fun z => by rw [z] at hb; have h8 := hold8.1; rw [hb] at h8; cases h8).trans hb⟩
          have smU : Sm Hs8 (upd H8 Dd ob) := fun a u ha => by
            rw [up a fun z => by rw [z, nD] at ha; cases ha]; exact okb.wf.sm a u ha
          have keep : ∀ {f : Fp}, (∀ b, f b ≠ 0 → b ≠ Dd) → (∀ b, f b ≠ 0 → Hs8 b = none) → ∀ b, f b ≠ 0 → (upd H8 Dd ob) b = H8 b ∧ Hs8 b = none := fun h1 h2 b hb => ⟨up b (h1 b hb), h2 b hb⟩
          have nd : ((acc ++ [(key, z)]).map (·.1)).Nodup := by
            rw [List.map_append, List.nodup_append]
            refine ⟨hD.2, by simp, fun x hx y hy => ?_⟩
            have : y = key := by simpa using hy
            subst this
            intro w; subst w
            have := kpos_mem.mpr hx
            rw [hl.2] at this; cases this
          refine turn (acc ++ [(key, z)]) e8 Hs8 _ fe8 (fun b => fa b + fv8 b) (va ++ [v8]) σ5 t5'.1 t5'.2 ((af8.weak fun b hb => .inl hb).trans afU) ⟨⟨smU, fun b => by have := okb.wf.one b; omega, fun b hb => okb.wf.own b (by omega), fun b hb => by have := okb.wf.apart b hb; omega, fun b hb z => okb.wf.live b hb (afU.mono b z)⟩,
            okb.sl.mono (Same.refl _) (keep (fun b hb => ne b (.inl hb)) fun b hb => okb.wf.own b (by omega)), okb.pn, okb.ex.mono (Same.refl _)⟩ ⟨by rw [upd_same, ← ho, List.map_append]; rfl, nd⟩ ?_ q8
          rw [List.map_append]
          refine Rps.app (hold8.2.mono (Same.refl _) (keep (fun b hb => ne b (.inr (.inl hb))) fun b hb => okb.wf.own b (by omega))) (.cons (r8.mono (Same.refl _) (keep (fun b hb => ne b (.inr (.inr hb))) fun b hb => okb.wf.own b (by omega))) (.nil (f := f0) fun _ => rfl) (h := fv8) fun b => rfl) fun b => rfl
        · rw [if_neg hl] at q8; exact q8.elim
  · have ei : i = xs.length := by omega
    subst ei
    rw [List.drop_length] at q2
    exact .inl ⟨j.stop Hs H a2.sh ok2.sm lk, fin acc e Hs H fe fa va a2 ok2 hD ra q2⟩


section
variable {X : Cx} {C : Cc} {W : WX} {pos : Pos} {a tg kx vx : Expr} {ifs : List Expr} {Fi : FI} {ts : List Nat} {g : FG} {tt : FT} {ke ve : FE}
theorem dc_read {own : List (Str × Nat)} (hts : ∀ i ∈ ts, i ∈ own.map (·.2)) (hv : ∀ p ∈ C.pins, p.1 ∉ own.map (·.2)) {σ : L2.St} {H : Hp} {Q : VK} (h : canE C W (eDc (own.map (·.2)) Fi g tt ke ve) σ H Q) :
    tDc (canI C W Fi) (canG C ts g) (canT C W0 tt) (canE C W0 ke) (canE C W0 ve) (own.map (·.2)) σ H Q := by
  generalize own.map (·.2) = vs at hts hv h ⊢
  obtain ⟨e, Hs, fe, P0, ok, q⟩ := h
  refine ⟨e, Hs, fe, P0, ok, EndE.bindI q fun J xs e1 Hs1 H1 fe1 P ok1 j q1 => ?_⟩
  intro Dd hD
  obtain ⟨fe2, ok2⟩ := ok1.delL vs
  have ok3 := ok2.wipe hv
  have n := New.obj (o := .dK []) ok3.sm hD
  have ok5 : Ok C Hs1 (upd H1 Dd (.dK [])) (wipe σ vs) (delL e1 vs) fe2 (fun b => f0 b + if b = Dd then 1 else 0) P := ok3.new n fun b hb => absurd rfl hb
  have af : Aft Hs1 H1 Hs1 (upd H1 Dd (.dK [])) P := n.aft ok3
  refine dc_main (W := W) (xs := xs) (ke := ke) (ve := ve) (tt := tt) (P := P) (Z := fun acc e2 => EndE C W (.ok (.nd (.dk (acc.map (·.1))) true (acc.map (·.2))) e2) Hs1 (upd H1 Dd (.dK [])) P σ Q) hts hv j af.lk ⟨[], e1, Hs1, fe2, f0, [], Aft.refl _ _ _, ok5, ⟨upd_same, .nil⟩, .nil fun _ => rfl, ?_⟩ ?_
  · have q2 := q1.shift af
    rw [List.drop_zero]
    cases hr : dcL vs g tt ke ve xs [] (delL e1 vs) with
    | bad => rw [hr] at q2; exact q2
    | ok acc e2 => rw [hr] at q2; exact q2
    | exc x e2 => rw [hr] at q2; exact fun dd H2s H2 fe' b ok ex => q2 dd H2s H2 fe' b ok ex
  · intro acc e2 Hs2 H2 fe2 fa va a2 ok2 hl ra z
    refine z (.ref Dd) Hs2 H2 fe2 (fun b => fa b + if b = Dd then 1 else 0) a2 (ok2.unwipe hv) ?_
    exact .own (k := .dk _) ⟨⟨by rw [ra.len]; simp, hl.2⟩, hl.1⟩ rfl (ok2.wf.own Dd (by rw [if_pos rfl]; omega)) ra fun b => rfl
theorem be_dc {scope : Scope} {own : List (Str × Nat)} (hc : X.calm = true) (hN : X.N.Nodup) (hi : BI X C W tg a Fi) (ok : BlkOk X.N X.env.scope scope own) (hts : ∀ i ∈ ts, i ∈ own.map (·.2)) (hv : ∀ p ∈ C.pins, p.1 ∉ own.map (·.2))
    (hg : ∀ (s : Shared) (H : Hp) (Ca : Addr) (cl : List (Str × Addr)) (fp : List Addr), BG (X.blk s H scope (compEnvC scope cl Ca X.env) fp) C tg ts g)
    (ht : ∀ (s : Shared) (H : Hp) (Ca : Addr) (cl : List (Str × Addr)) (fp : List Addr), BTs (X.blk s H scope (compEnvC scope cl Ca X.env) fp) C W0 ifs tt)
    (hk : ∀ (s : Shared) (H : Hp) (Ca : Addr) (cl : List (Str × Addr)) (fp : List Addr), BE (X.blk s H scope (compEnvC scope cl Ca X.env) fp) C W0 kx ke)
    (he : ∀ (s : Shared) (H : Hp) (Ca : Addr) (cl : List (Str × Addr)) (fp : List Addr), BE (X.blk s H scope (compEnvC scope cl Ca X.env) fp) C W0 vx ve) (hf : ∀ x, foldedSetIterable a X.env x = pure x) :
    BE X C W (.DictComp kx vx [⟨tg, a, ifs, 0⟩] scope pos) (eDc (own.map (·.2)) Fi g tt ke ve) :=
  (pe_dc hc hN hi ok hg ht hk he hf).imp fun σ H Q h => dc_read hts hv h
end
end Bx

set_option Elab.async false
set_option linter.all false
set_option maxRecDepth 100000
set_option maxHeartbeats 1000000
/-! y = x[i].setdefault(k, []), y's list changed by what follows: the list is lent to y. -/
namespace Bx
open PySem L2
section
variable {C : Cc} {Hs H : Hp} {σ : L2.St} {e : En} {fe : Fp} {P : Addr → Prop}
/-- two steps down from a slot, and lent -/
theorem Ok.lend2 {i j j1 j2 : Nat} {ds xs : List D} {ks : List Key} {d : D} (ok : Ok C Hs H σ e fe f0 P) (hi : e.sl[i]? = some (some (.nd .lst true ds))) (h1 : ds[j1]? = some (.nd (.dk ks) true xs)) (h2 : xs[j2]? = some d) (hij : i ≠ j) (hj : j < e.sl.length) (hn : npin C j) :
    ∃ a0 vs0 a1 vs1 v, σ[i]? = some (some (.ref a0)) ∧ H a0 = some (.lst vs0) ∧ vs0[j1]? = some (.ref a1) ∧ ((ks.length = vs1.length ∧ ks.Nodup) ∧ H a1 = some (.dK (ks.zip vs1))) ∧ vs1[j2]? = some v ∧
      ∃ (f1 : Fp) (P1 : Addr → Prop), (∀ b, P b → P1 b) ∧ Ok ((C.pin i (.ref a0)).pin j v) Hs H (σ.set j (some v)) (e.lend i j d) f1 f0 P1 ∧
      ∀ {Hs' H' : Hp} {σ' : L2.St} {e' : En} {d' : D} {f2 f3 : Fp}, Aft Hs H Hs' H' P1 → Ok ((C.pin i (.ref a0)).pin j v) Hs' H' σ' e' f2 f3 P1 → e'.sl[i]? = some none → e'.sl[j]? = some (some d') → ∃ f4, Ok C Hs' H' σ' ((e'.del j).put i (.nd .lst true (ds.set j1 (.nd (.dk ks) true (xs.set j2 d'))))) f4 f3 P := by
  obtain ⟨u0, g1, g2, hu, ru, eg, sl1⟩ := ok.sl.get hi
  obtain ⟨a0, vs0, v1, k1, r1, rfl, at0, _, hv1, e1, _, p1⟩ := (Plc.top ru).down h1
  obtain ⟨a1, vs1, v, k2, r2, rfl, at1, _, hv, e2, _, p2⟩ := p1.down h2
  have sum : ∀ b, fe b = (k2 b + r2 b) + g2 b := fun b => by have := eg b; have := e1 b; have := e2 b; simp only [f0] at *; omega
  have live : ∀ b, r2 b ≠ 0 → H b ≠ none ∧ Hs b = none := fun b hb => ok.sl.live b (by have := sum b; omega)
  obtain ⟨f1, P1, hP, okL, back⟩ := ok.lendP hi hu hij hj hn ⟨g2, sum, sl1⟩ live p2
  exact ⟨a0, vs0, a1, vs1, v, hu, at0, hv1, at1, hv, f1, P1, hP, okL, back⟩
end
/-- the keys, the values and the place behind setdefault -/
def sdKey (ks : List Key) (xs : List D) (k : Key) : List Key × List D × Nat := match kpos ks k with
  | some j => (ks, xs, j)
  | none => (ks ++ [k], xs ++ [.nd .lst true []], xs.length)
/-- what was lent goes back -/
def sdBack (i j : Nat) (ds : List D) (j1 : Nat) (r : List Key × List D × Nat) : So → So
  | .nx e1 => (match e1.sl[i]?, e1.sl[j]? with
    | some none, some (some d') => .nx ((e1.del j).put i (.nd .lst true (ds.set j1 (.nd (.dk r.1) true (r.2.1.set r.2.2 d')))))
    | _, _ => .bad)
  | _ => .bad
def sdRow (ds : List D) (n y : D) : Option (Nat × List Key × List D × Key) := match n with
  | .int n => (ixN ds.length n).bind fun j1 => match ds[j1]? with
    | some (.nd (.dk ks) true xs) => (keyD y).map fun k => (j1, ks, xs, k)
    | _ => none
  | _ => none
def fSdl (i j : Nat) (b k : FQ) (body : FS) : FS := fun e => match e.sl[i]? with
  | some (some (.nd .lst true ds)) => (match b e, k e with
    | some n, some y => (match sdRow ds (frz n) (frz y) with
      | some (j1, ks, xs, key) => (match (sdKey ks xs key).2.1[(sdKey ks xs key).2.2]? with
        | some d => if i ≠ j ∧ j < e.sl.length ∧ xs.length < lim then sdBack i j ds j1 (sdKey ks xs key) (body (e.lend i j d)) else .bad
        | none => .bad)
      | none => .bad)
    | _, _ => .bad)
  | _ => .bad
section
variable {X : Cx} {C : Cc} {W : WX} {st : Stmt} {rest : List Stmt} {Fb Fk : FQ} {S : FS}
theorem zip_inj {ks : List Key} {vs ws : List V} (h1 : ks.length = vs.length) (h2 : ks.length = ws.length) (h : ks.zip vs = ks.zip ws) : vs = ws := by
  have z := congrArg (List.map Prod.snd) h
  rwa [List.map_snd_zip (by omega), List.map_snd_zip (by omega)] at z
theorem bss_sdl {i j : Nat} (hs : PS X st (tAsg (tDSetd (tOp (rIxA C.K C.P C.w) (tVar i) (canQ C Fb)) (canQ C Fk) (tLst tNil)) (gName j))) (hn : npin C j) (hb : ∀ r u, BSs X ((C.pin i r).pin j u) W0 rest S) : BSs X C W (st :: rest) (fSdl i j Fb Fk S) :=
  (pss_cons hs (u := fun D σ H => ∃ r u, canS ((C.pin i r).pin j u) W0 S D σ H) ⟨fun pins s σ H D I ⟨r, u, h⟩ => (hb r u).run pins s σ H D I h⟩).imp fun N σ H ⟨e, Hs, fe, P, ok, q⟩ => by
    unfold fSdl at q
    split at q
    rotate_left
    · exact q.elim
    rename_i ds hds
    split at q
    rotate_left
    · exact q.elim
    rename_i n y hbn hky
    cases hr : sdRow ds (frz n) (frz y) with
    | none => rw [hr] at q; exact q.elim
    | some row =>
    obtain ⟨j1, ks, xs, key⟩ := row
    rw [hr] at q
    dsimp only at q
    unfold sdRow at hr
    split at hr
    rotate_left
    · cases hr
    rename_i m hm
    obtain ⟨j1', hj1, hr⟩ := Option.bind_eq_some_iff.mp hr
    split at hr
    rotate_left
    · cases hr
    rename_i ks' xs' hdj
    obtain ⟨key', hkey, hr⟩ := Option.map_eq_some_iff.mp hr
    cases hr
    cases hd : (sdKey ks xs key).2.1[(sdKey ks xs key).2.2]? with
    | none => rw [hd] at q; exact q.elim
    | some d =>
    rw [hd] at q
    dsimp only at q
    by_cases hc : i ≠ j ∧ j < e.sl.length ∧ xs.length < lim
    rotate_left
    · rw [if_neg hc] at q; exact q.elim
    rw [if_pos hc] at q
    -- the list's place
    obtain ⟨u0, f1, f2, hu, ru, eg, put⟩ := sls_lens ok.sl hds
    have l0 : Loc C.toGc Hs H σ e fe u0 (.nd .lst true ds) (fun d' => e.put i d') f1 := ⟨ru, f2, eg, fun _ => rfl, fun _ => put⟩
    refine ⟨u0, hu, canQ.on ok (New.refl ok.sm) hbn fun yv Hs1 H1 fy n1 ry => ?_⟩
    obtain ⟨Hs2, n2, _, r2⟩ := n1.frz ry
    rw [hm] at r2
    obtain ⟨a0, vs0, u1, h1, rfl, at0, ⟨_, rs0⟩, hv1, l1⟩ := (l0.keepN n2 ok.sl).child n2.sm hdj
    have cp : cpos (.nd .lst true ds) (.int m) = some j1 := hj1
    refine ixCore (G := C.toGc) n2.sm at0 rs0 r2 cp u1 _ hv1 ?_
    have here : ∃ a1 vs1, u1 = .ref a1 ∧ ((ks.length = vs1.length ∧ ks.Nodup) ∧ H1 a1 = some (.dK (ks.zip vs1))) := by
      have r := l1.rp
      cases r with
      | own at_ _ _ _ _ => exact ⟨_, _, rfl, at_⟩
    obtain ⟨a1, vs1, rfl, at1⟩ := here
    refine ⟨a1, rfl, .inl ⟨_, .inl at1.2⟩, canQ.on ok n2 hky fun kv Hs3 H3 fk n3 rk => ?_⟩
    obtain ⟨Hs4, n4, _, r4⟩ := n3.frz rk
    have n24 := n2.trans n4
    have ok4 := ok.newN n24
    refine ⟨by rw [sizeLine_eq]; simp, fun p hp => ?_⟩
    have n5 := New.obj (o := .lst []) ok4.sm hp
    have live1 : H1 a1 ≠ none := by rw [at1.2]; intro z; cases z
    have at3 : H3 a1 = some (.dK (ks.zip vs1)) := (n4.keep a1 live1).1.trans at1.2
    have ap : a1 ≠ p := fun z => by rw [z, hp] at at3; cases at3
    have at5 : upd H3 p (.lst []) a1 = some (.dK (ks.zip vs1)) := (upd_ne ap).trans at3
    have ok5 := ok4.newN n5
    have n6 := n24.trans n5
    have len1 : vs1.length = xs.length := by
      have r := l1.rp
      cases r with
      | own at_ _ _ rs _ =>
        have z := at_.2
        rw [at1.2] at z
        injection z with z
        injection z with z
        rw [← rs.len, ← zip_inj at1.1.1 at_.1.1 z]
    have a0H : ∀ {vs : List V}, H1 a0 = some (.lst vs) → vs = vs0 := fun z => by
      rcases at0 with w | ⟨_, _, w⟩ | ⟨w, _⟩
      · rw [show H1 a0 = some (.lst vs0) from w] at z; cases z; rfl
      · cases w
      · cases w
    have liv0 : H1 a0 ≠ none := by
      rcases at0 with w | ⟨_, _, w⟩ | ⟨w, _⟩
      · rw [show H1 a0 = some (.lst vs0) from w]; intro z; cases z
      · cases w
      · cases w
    -- behind the body the list goes back
    have fin : ∀ {C' : Cc} {H6 : Hp} {Pn : Addr → Prop}, EndS C W (sdBack i j ds j1 (sdKey ks xs key) (S (e.lend i j d))) Hs4 H6 P N → (∀ b, P b → Pn b) →
        (∀ {Hs' H' : Hp} {σ' : L2.St} {e' : En} {d' : D} {f2 f3 : Fp}, Aft Hs4 H6 Hs' H' Pn → Ok C' Hs' H' σ' e' f2 f3 Pn → e'.sl[i]? = some none → e'.sl[j]? = some (some d') → ∃ f4, Ok C Hs' H' σ' ((e'.del j).put i (.nd .lst true (ds.set j1 (.nd (.dk (sdKey ks xs key).1) true ((sdKey ks xs key).2.1.set (sdKey ks xs key).2.2 d'))))) f4 f3 P) → EndS C' W0 (S (e.lend i j d)) Hs4 H6 Pn N := by
      intro C' H6 Pn q hP back
      generalize S (e.lend i j d) = r at q ⊢
      unfold sdBack at q
      cases r with
      | nx e1 =>
        intro σ' Hs' H' fe' a ok'
        dsimp only at q
        split at q
        · rename_i d' h1 h2
          obtain ⟨f4, ok6⟩ := back a ok' h1 h2
          exact q σ' Hs' H' f4 (a.weak hP) ok6
        · exact q.elim
      | _ => exact q.elim
    refine ⟨ks.zip vs1, key, at5, keyD_rp r4 hkey, by rw [List.length_zip, at1.1.1, Nat.min_self, len1]; exact lim_lt (Nat.le_of_lt hc.2.2), fun v hv => ?_, fun hv => ?_⟩
    · -- the key is there
      rw [valV_kpos at1.1.1] at hv
      obtain ⟨j2, hj2, hv⟩ := Option.bind_eq_some_iff.mp hv
      have sk : sdKey ks xs key = (ks, xs, j2) := by unfold sdKey; rw [hj2]
      have hd' : xs[j2]? = some d := by rw [sk] at hd; exact hd
      obtain ⟨b0, ws0, b1, ws1, v', g1, g2, g3, g4, g5, f7, Pn, hP, okL, back⟩ := (ok5.less (fx' := f0) fun _ => Nat.zero_le _).lend2 hds hdj hd' hc.1 hc.2.1 hn
      rw [hu] at g1
      cases g1
      have e0 : ws0 = vs0 := a0H ((n4.trans n5 |>.keep a0 liv0).1.symm.trans g2)
      subst e0
      rw [hv1] at g3
      cases g3
      rw [at5] at g4
      have g6 := g4.2
      injection g6 with g6
      injection g6 with g6
      have e1 := zip_inj at1.1.1 g4.1.1 g6
      subst e1
      rw [hv] at g5
      cases g5
      have qq := q.shift (n6.aft ok)
      refine ⟨_, _, e.lend i j d, Hs4, f7, Pn, okL, fin qq hP ?_⟩
      rw [sk]
      exact back
    · -- it is new
      rw [valV_kpos at1.1.1] at hv
      have hj2 : kpos ks key = none := by
        cases z : kpos ks key with
        | none => rfl
        | some j2 =>
          rw [z] at hv
          have := kpos_lt z
          rw [Option.bind_some, List.getElem?_eq_getElem (by omega)] at hv
          cases hv
      have sk : sdKey ks xs key = (ks ++ [key], xs ++ [.nd .lst true []], xs.length) := by unfold sdKey; rw [hj2]
      have l5 := (l1.keepN n4 (ok.newN n2).sl).keepN n5 ok4.sl
      obtain ⟨a1', vs1', g, e1, at_, rs, hl', rsu, rdu, fin2⟩ := ok5.nodeL l5
      cases e1
      have e1 := at_.2
      rw [at5] at e1
      injection e1 with e1
      injection e1 with e1
      have e1 := zip_inj at1.1.1 at_.1.1 e1
      subst e1
      rw [putK_fresh at1.1.1 hj2]
      have nd : (ks ++ [key]).Nodup := by
        rw [List.nodup_append]
        refine ⟨at1.1.2, by simp, fun x hx y hy => ?_⟩
        have : y = key := by simpa using hy
        subst this
        intro w; subst w
        have := kpos_mem.mpr hx
        rw [hj2] at this; cases this
      have newl : Rp C.toGc Hs4 (upd H3 p (.lst [])) (.ref p) (.nd .lst true []) (fun b => if b = p then 1 else 0) := .own (f := f0) (vs := []) upd_same rfl (ok4.sm.live hp) (.nil fun _ => rfl) fun b => (Nat.zero_add _).symm
      obtain ⟨fe6, af6, ok6⟩ := fin2 (.dK ((ks ++ [key]).zip (vs1 ++ [.ref p]))) (.dk (ks ++ [key])) (vs1 ++ [.ref p]) (xs ++ [.nd .lst true []]) (fun b => g b + if b = p then 1 else 0) ⟨⟨by simp [at1.1.1], nd⟩, upd_same⟩ rfl (fun b => Nat.le_refl _) ((rsu _).app (.cons (rdu _ _ _ newl) (.nil (f := f0) fun _ => rfl) (h := fun b => if b = p then 1 else 0) fun b => rfl) fun b => rfl)
      have li : i < e.sl.length := (List.getElem?_eq_some_iff.mp hds).1
      have l1j : j1 < ds.length := (List.getElem?_eq_some_iff.mp hdj).1
      have hds6 : (e.put i (.nd .lst true (ds.set j1 (.nd (.dk (ks ++ [key])) true (xs ++ [.nd .lst true []]))))).sl[i]? = some (some (.nd .lst true (ds.set j1 (.nd (.dk (ks ++ [key])) true (xs ++ [.nd .lst true []]))))) := putE_at li
      have hd6 : (xs ++ [D.nd .lst true []])[xs.length]? = some d := by rw [sk] at hd; exact hd
      obtain ⟨b0, ws0, b1, ws1, v', g1, g2, g3, g4, g5, f7, Pn, hP, okL, back⟩ := ok6.lend2 hds6 (List.getElem?_set_self l1j) hd6 hc.1 (by rw [putE_len]; exact hc.2.1) hn
      rw [hu] at g1
      cases g1
      have ne01 : a0 ≠ a1 := fun z => by
        rcases at0 with w | ⟨_, _, w⟩ | ⟨w, _⟩
        · have w' : H1 a0 = some (.lst vs0) := w
          rw [z, at1.2] at w'; cases w'
        · cases w
        · cases w
      rw [upd_ne ne01] at g2
      have e0 : ws0 = vs0 := a0H ((n4.trans n5 |>.keep a0 liv0).1.symm.trans g2)
      subst e0
      rw [hv1] at g3
      cases g3
      rw [upd_same] at g4
      have g6 := g4.2
      injection g6 with g6
      injection g6 with g6
      have e2 := zip_inj (ks := ks ++ [key]) (by simp [at1.1.1]) g4.1.1 g6
      subst e2
      rw [List.getElem?_append_right (by omega), len1, Nat.sub_self] at g5
      cases g5
      have qq := q.shift ((n6.aft ok).trans af6)
      have le : (e.put i (.nd .lst true (ds.set j1 (.nd (.dk (ks ++ [key])) true (xs ++ [.nd .lst true []]))))).lend i j d = e.lend i j d := by
        unfold En.lend En.put En.del
        simp only [List.set_set]
      rw [le] at okL
      refine ⟨_, _, e.lend i j d, Hs4, f7, Pn, okL, fin qq hP ?_⟩
      rw [sk]
      intro Hs' H' σ' e' d' f2 f3 h1 h2 h3 h4
      have := back h1 h2 h3 h4
      rwa [List.set_set] at this
end
end Bx
namespace Bx
open PySem L2
theorem psSdl {X : Cx} {C : Cc} {i j : Nat} {o b k : Expr} {x : Str} {pos pos' apos cpos sp lp : Pos} {Fb Fk : FQ} (hu : X.A.units + 64 < cLine) (hk : XC X C.toGc) (hN : X.N.Nodup) (hj : X.N[j]? = some x) (hl : L2.Loc X.env.scope x) (ho : PE X o (tVar i)) (hb : BQ X C b Fb) (hs : PlainIx b) (hkx : BQ X C k Fk)
    (m : M2 X (.Subscript o b sp) "setdefault" apos k (.List [] lp) cpos) (hsw : swapsWith (.Call (.Attribute (.Subscript o b sp) "setdefault" apos) [k, .List [] lp] [] cpos) (some (.Name x pos')) pos.line X.env = pure false) (hf : X.fn x = true ∨ X.env.scope.names.lookup x = some .local) :
    PS X (.Assign [.Name x pos'] (.Call (.Attribute (.Subscript o b sp) "setdefault" apos) [k, .List [] lp] [] cpos) pos) (tAsg (tDSetd (tOp (rIxA C.K C.P C.w) (tVar i) (canQ C Fb)) (canQ C Fk) (tLst tNil)) (gName j)) :=
  ps_set hN hj hl (pe_dsetd (pe_ix (ix_A hu hk) ho hb hs) hkx (pe_lst pa_nil) m) hsw hf
end Bx
namespace Bx
open PySem L2
theorem u65_of {k : Nat} {A : Around} (r : Room k A) : A.units + 65 < cLine := by have := r.un; omega
end Bx

set_option Elab.async false
set_option linter.all false
set_option maxRecDepth 100000
set_option maxHeartbeats 1000000
/-! A call whose first argument is a place: what stands there goes in, and out again. -/
namespace Bx
open PySem L2
def evQ : List FQ → En → Option (List D)
  | [], _ => some []
  | q :: qs, e => (q e).bind fun d => (evQ qs e).map (d :: ·)
/-- what the callee leaves of its first argument goes back to the place -/
def backP (S : D → En) : CR → Rs D
  | .ok z (some d :: _) => .ok z (S d)
  | .exc x (some d :: _) => .exc x (S d)
  | _ => .bad
def eCallP (n : Nat) (F : List D → CR) (p : FL) (qs : List FQ) : FE := fun e => match p e with
  | some (d, S) => (match evQ qs e with
    | some ds => if d.isF = false ∧ ds.length + 1 = n then backP S (F (d :: frzs ds)) else .bad
    | none => .bad)
  | none => .bad
def canQs (C : Cc) (qs : List FQ) : TA := fun σ H Q => ∃ e Hs fe P ds, Ok C Hs H σ e fe f0 P ∧ evQ qs e = some ds ∧ ∀ vs Hs' H', New Hs H Hs' H' f0 → Rps C.toGc Hs' H' vs (frzs ds) f0 → Q vs H'
def canPs (C : Cc) (p : FL) (qs : List FQ) : TA := fun σ H Q => ∃ e Hs fe P d S ds, Ok C Hs H σ e fe f0 P ∧ p e = some (d, S) ∧ evQ qs e = some ds ∧ ∀ v f vs Hs' H', New Hs H Hs' H' f0 → Loc C.toGc Hs' H' σ e fe v d S f → Rps C.toGc Hs' H' vs (frzs ds) f0 → Q (v :: vs) H'
def BQs (X : Cx) (C : Cc) (es : List Expr) (qs : List FQ) : Prop := PA X es (canQs C qs)
section
variable {X : Cx} {C : Cc} {W : WX} {pos : Pos} {a : Expr} {es : List Expr} {p : FL} {q : FQ} {qs : List FQ}
theorem bqs_nil : BQs X C [] [] := pa_nil.imp fun σ H Q ⟨e, Hs, fe, P, ds, ok, hd, k⟩ => by
  cases hd
  exact k [] Hs H (New.refl ok.wf.sm) (.nil fun _ => rfl)
theorem bqs_cons (ha : BQ X C a q) (hs : BQs X C es qs) (hst : starEach (a :: es) X.env = (false, eval a X.env) :: starEach es X.env) : BQs X C (a :: es) (q :: qs) :=
  (pa_cons ha hs hst).imp fun σ H Q ⟨e, Hs, fe, P, ds, ok, hd, k⟩ => by
    unfold evQ at hd
    obtain ⟨d, h1, h2⟩ := Option.bind_eq_some_iff.mp hd
    obtain ⟨ds', h3, rfl⟩ := Option.map_eq_some_iff.mp h2
    refine ⟨e, Hs, fe, P, d, ok, h1, fun v Hs1 H1 fv n1 r1 => ?_⟩
    obtain ⟨Hs2, n2, s2, r2⟩ := n1.frz r1
    refine ⟨e, Hs2, fe, P, ds', ok.newN n2, h3, fun vs Hs3 H3 n3 rs => ?_⟩
    exact k (v :: vs) Hs3 H3 (n2.trans n3) (.cons (r2.keepN n3) rs fun _ => rfl)
theorem bps_args (ha : BL X C a p) (hs : BQs X C es qs) (hst : starEach (a :: es) X.env = (false, eval a X.env) :: starEach es X.env) : PA X (a :: es) (canPs C p qs) :=
  (pa_cons ha hs hst).imp fun σ H Q ⟨e, Hs, fe, P, d, S, ds, ok, hp, hd, k⟩ => by
    refine ⟨e, Hs, fe, P, d, S, ok, hp, fun v f Hs1 H1 n1 l1 => ?_⟩
    have ok1 := ok.newN n1
    refine ⟨e, Hs1, fe, P, ds, ok1, hd, fun vs Hs2 H2 n2 rs => ?_⟩
    exact k v f vs Hs2 H2 (n1.trans n2) (l1.keepN n2 ok1.sl) rs
theorem call_readP {F : List D → CR} {n : Nat} {σ : L2.St} {H : Hp} {Q : VK} (h : canE C W (eCallP n F p qs) σ H Q) : canPs C p qs σ H fun vs H1 => spD C.toGc n F vs H1 Q (WE W σ) := by
  obtain ⟨e, Hs, fe, P, ok, k⟩ := h
  unfold eCallP at k
  cases hp : p e with
  | none => rw [hp] at k; exact k.elim
  | some dS =>
    obtain ⟨d, S⟩ := dS
    rw [hp] at k
    dsimp only at k
    cases hd : evQ qs e with
    | none => rw [hd] at k; exact k.elim
    | some ds =>
      rw [hd] at k
      dsimp only at k
      by_cases c : d.isF = false ∧ ds.length + 1 = n
      rotate_left
      · rw [if_neg c] at k; exact k.elim
      rw [if_pos c] at k
      refine ⟨e, Hs, fe, P, d, S, ds, ok, hp, hd, fun v f vs Hs1 H1 n1 l1 rs => ?_⟩
      have ok1 := ok.newN n1
      have k1 := k.shift (n1.aft ok)
      obtain ⟨rv, fr, ef, ex2, put⟩ := l1
      have one := ok1.wf.one
      have frl : ∀ b, fr b ≠ 0 → fe b ≠ 0 := fun b hb => by have := ef b; omega
      refine ⟨by rw [List.length_cons, rs.len, frzs_len]; exact c.2, d :: frzs ds, Hs1, fun b => f b + f0 b, fun b => P b ∨ fr b ≠ 0, ⟨ok1.wf.sm, fun b => ?_, fun b hb => ?_, fun b hb => ?_, fun b hb => ?_⟩, .cons rv rs fun _ => rfl, ?_⟩
      · have o : fe b + 0 ≤ 1 := one b
        have := ef b
        show f b + 0 ≤ 1; omega
      · have hb' : f b + 0 ≠ 0 := hb
        have := ef b
        exact ok1.wf.own b (show fe b + 0 ≠ 0 by omega)
      · have o : fe b + 0 ≤ 1 := one b
        have e1 := ef b
        show f b + 0 = 0
        rcases hb with hb | hb
        · have : fe b + 0 = 0 := ok1.wf.apart b hb
          omega
        · omega
      · rcases hb with hb | hb
        · exact ok1.wf.live b hb
        · exact (ok1.sl.live b (frl b hb)).1
      -- the state behind the call
      have back : ∀ {Hs' H' : Hp} {fo fv : Fp} {d' : D} {os : List (Option D)}, Aft Hs1 H1 Hs' H' (fun b => P b ∨ fr b ≠ 0) → Wf Hs' H' (fun b => fo b + fv b) (fun b => P b ∨ fr b ≠ 0) → Sls C.toGc Hs' H' ((v :: vs).map some) (some d' :: os) fo →
          ∃ fe3, Ok C Hs' H' σ (S d') fe3 fv P := by
        intro Hs' H' fo fv d' os af wf so
        cases so with
        | @yes _ _ f2 _ _ g _ r2 so2 q2 =>
          have s3 := put c.1 (d' := d') (f' := f2) af.sh (fun b hb => af.keep b (.inr hb) (ok1.wf.own b (show fe b + 0 ≠ 0 by have := frl b hb; omega))) r2
          refine ⟨_, ⟨wf.sm, fun b => ?_, fun b hb => ?_, fun b hb => ?_, fun b hb => wf.live b (.inl hb)⟩, s3, ok1.pn, by rw [ex2]; exact ok1.ex.mono af.sh⟩
          · have h1 := q2 b
            have h2 : fo b + fv b ≤ 1 := wf.one b
            have h3 : fe b + 0 ≤ 1 := one b
            have h4 := ef b
            show f2 b + fr b + fv b ≤ 1
            by_cases z : fr b = 0
            · omega
            · have : fo b + fv b = 0 := wf.apart b (.inr z); omega
          · have h1 := q2 b
            have hb' : f2 b + fr b + fv b ≠ 0 := hb
            by_cases z : fr b = 0
            · exact wf.own b (show fo b + fv b ≠ 0 by omega)
            · exact (af.keep b (.inr z) (ok1.wf.own b (show fe b + 0 ≠ 0 by have := frl b z; omega))).2
          · have h1 := q2 b
            have h2 : fo b + fv b = 0 := wf.apart b (.inl hb)
            have h3 : fe b + 0 = 0 := ok1.wf.apart b hb
            have h4 := ef b
            show f2 b + fr b + fv b = 0
            omega
      cases hF : F (d :: frzs ds) with
      | bad => rw [hF] at k1; exact k1.elim
      | ok z os =>
        rw [hF] at k1
        intro u Hs' H' fv fo af wf ru so
        cases os with
        | nil => exact k1.elim
        | cons o os =>
          cases o with
          | none => exact k1.elim
          | some d' =>
            obtain ⟨fe3, ok3⟩ := back af wf so
            exact k1 u Hs' H' fe3 fv (af.weak fun b hb => .inl hb) ok3 ru
      | exc x os =>
        rw [hF] at k1
        intro dd Hs' H' fo af wf so ex
        cases os with
        | nil => exact k1.elim
        | cons o os =>
          cases o with
          | none => exact k1.elim
          | some d' =>
            obtain ⟨fe3, ok3⟩ := back (fv := f0) af wf so
            exact k1 dd Hs' H' fe3 (af.weak fun b hb => .inl hb) ok3 ex
theorem be_callP {k n : Nat} {f : Addr} {fd : FuncData} {ps : List Str} {Fn : List D → CR} {x : Str} {p2 : Pos} (F : FnOk X.prog X.w X.K X.mg X.base (L2.CX X.prog X.w) k f fd ps (spD C.toGc n Fn)) (hr : Room k X.A) (hg : Gl X x) (hm : X.mg x = some (.ref f)) (hk : PySem.W.keepIn X.K (.ref f) = true)
    (hb : Binds X.K fd ps []) (tk : Takes X W) (ha : BL X C a p) (hs : BQs X C es qs) (hdb : (x == ("__debug__" : Str)) = false) (he : starEach (a :: es) X.env = (false, eval a X.env) :: starEach es X.env) (hpl : (backTo pos (starEach es X.env)).any (·.1) = false) :
    BE X C W (.Call (.Name x p2) (a :: es) [] pos) (eCallP n Fn p qs) :=
  (pe_callS F hr hg hm hk hb (E := WE W) (fun σ => passAt tk σ) (bps_args ha hs he) hdb he hpl).imp fun σ H Q h => call_readP h
end
end Bx

set_option Elab.async false
set_option linter.all false
set_option maxRecDepth 100000
set_option maxHeartbeats 1000000
/-! `<` of data of one shape: lists and tuples too. -/
namespace Bx
open PySem L2
open PySem.W (dataLt lt_data)
def isntN : PyData → Bool
  | .none => false
  | _ => true
theorem isntN_ne {d : PyData} (h : isntN d = true) : d ≠ .none := by
  rintro rfl
  cases h
def ltOk (a b : PyData) : Bool := PySem.W.alike a b && isntN a && decide (min a.depth b.depth ≤ 60)
def ltAD (a b : D) : Option D := if eqOk a && eqOk b && ltOk (pyd a) (pyd b) then some (.bl (dataLt (pyd a) (pyd b))) else none
def rLtP (K : PySem.W.Frag) : R2 := fun x y H Q => ∃ d e, Dp K H x d ∧ Dp K H y e ∧ ltOk d e = true ∧ Q (.bl (dataLt d e)) H
section
variable {X : Cx}
theorem op_ltP (hu : X.A.units + 64 < cLine) : OpR X (compareOp .Lt) (rLtP X.K) := by
  intro pins s σ H x y v u Q I rx ry ⟨d, e, hd, he, c, q⟩
  unfold ltOk at c
  simp only [Bool.and_eq_true, decide_eq_true_eq] at c
  obtain ⟨_, r1⟩ := Dp.reads I d x v hd rx
  obtain ⟨_, r2⟩ := Dp.reads I e y u he ry
  exact lt_data r1 r2 c.1.1 (isntN_ne c.1.2) (by have := c.2; omega) ⟨V.bl (dataLt d e), H, I, rfl, q⟩
end
theorem ltAS {G : Gc} : OpS G (rLtP G.K) ltAD := by
  intro Hs H v1 v2 d1 d2 z Q s r1 r2 hz q
  unfold ltAD at hz
  split at hz
  · rename_i c
    cases hz
    simp only [Bool.and_eq_true] at c
    exact ⟨_, _, r1.dp s c.1.1, r2.dp s c.1.2, c.2, res0 s q (r_bl _)⟩
  · cases hz
/-! `len` of a dict whose keys are nested -/
def rLenN (P : Program) (w : World) (K : PySem.W.Frag) : List V → Hp → VK → Prop := fun xs H Q => ∃ (a : Addr) (es : NEs), xs = [V.ref a] ∧ Rd H a (nDict P w a es) ∧ (∀ p ∈ es, NkV K H p.1 p.2.1 ∧ p.1.depth ≤ 8) ∧ Q (V.int ((es.length : Nat) : Int)) H
theorem call_lenN {X : Cx} : CallR X (.builtin "len") (rLenN X.prog X.w X.K) := by
  intro pins s σ H xs us Q I r ⟨a, es, e, rd, ks, q⟩
  subst e
  obtain ⟨u, rfl, ru⟩ := vals1 r
  cases (show u = Value.ref a from ru)
  obtain ⟨h1, h2, ys, rel, at_⟩ := nDict_at I rd ks
  have n : es.length = ys.length := Paired.length rel
  refine call_len_dictH h1 at_ (by have := sizeLine_eq; omega) ?_
  rw [← n]
  exact ⟨V.int ((es.length : Nat) : Int), H, I.tok _, ⟨_, rfl⟩, q⟩
def lenND : List D → Option D
  | [.nd (.dn ks) _ xs] => if keysOk ks xs then some (.int ks.length) else none
  | _ => none
theorem lenNS {G : Gc} : CallB G (rLenN G.P G.w G.K) lenND := by
  intro Hs H vs ds z Q s r0 hz q
  unfold lenND at hz
  split at hz
  · rename_i ks o xs
    split at hz
    · rename_i c
      cases hz
      obtain ⟨v, f, rfl, r⟩ := r0.one
      obtain ⟨a, ws, g, rfl, at_, rs⟩ : ∃ a ws g, v = .ref a ∧ AtR G Hs H a (.dn ks) ws o ∧ Rps G Hs H ws xs g := by
        cases r with
        | sh h rs z => exact ⟨_, _, _, rfl, .sh s h, rs⟩
        | own h w n rs e => exact ⟨_, _, _, rfl, .inl h, rs⟩
      obtain ⟨es, ⟨rfl, _, rfl⟩, rd⟩ := dn_rd' s at_
      exact ⟨a, es, rfl, rd, keysOk_all s rs c, q _ (by rw [List.length_map]; exact r_int _)⟩
    · cases hz
  · cases hz
end Bx

set_option Elab.async false
set_option linter.all false
set_option maxRecDepth 100000
/-! The end of a proof. -/
namespace Bx
open PySem L2 PyProof.Rows
def spLaw (K : PySem.W.Frag) : Sp := fun vs H Q _ => ∃ (a : Addr) (ns : List Int), vs = [.ref a] ∧ SqL K H a (ns.map V.int) ∧ ns.length ≤ 63 ∧ (∀ z ∈ ns, Builtin.Int.intBits z ≤ 1048576) ∧ ∀ H', Q (.bl true) H'
/-- what the plain law has to show -/
def Keeps (F : List D → CR) : Prop := ∀ ns : List Int, ns.length ≤ 63 → (∀ z ∈ ns, Builtin.Int.intBits z ≤ 1048576) → ∃ os, F [.nd .wl false (ns.map D.int)] = .ok (.bl true) os
theorem law_fn {P : Program} {w : World} {K : PySem.W.Frag} {mg : Str → Option Value} {base : Heap} {CX : CXT} {k : Nat} {f : Addr} {fd : FuncData} {ps : List Str} {ca : Str → Addr} {F : List D → CR} (hF : Keeps F) (G : FnOk P w K mg base CX k f fd ps (spD ⟨K, ca, P, w⟩ 1 F)) :
    FnOk P w K mg base CX k f fd ps (spLaw K) := G.imp fun vs H Q E h => by
  obtain ⟨a, ns, rfl, hS, hl, hb, q⟩ := h
  obtain ⟨os, e⟩ := hF ns hl hb
  have ri : ∀ ns : List Int, Rps ⟨K, ca, P, w⟩ H H (ns.map V.int) (ns.map D.int) f0 := fun ns => by
    induction ns with
    | nil => exact .nil fun _ => rfl
    | cons n ns ih => exact .cons (r_int n) ih fun _ => rfl
  refine ⟨rfl, [.nd .wl false (ns.map D.int)], H, f0, fun _ => False, ⟨fun a o h => .inl h, fun b => Nat.zero_le _, fun b hb => absurd rfl hb, fun b hb => hb.elim, fun b hb => hb.elim⟩, .cons (.sh hS (ri ns) fun _ => rfl) (.nil (f := f0) fun _ => rfl) fun _ => rfl, ?_⟩
  rw [e]
  exact fun v Hs' H' fv fo _ _ rv _ => by rw [rv.toB]; exact q _
theorem walk {l : PySem.W.OpenLaw} {k : Nat} {q : Program} {loose : List Str} {XP : (Str → Option Value) → Heap → Prop} {YP : World → Heap → Prop} {d : DefRec} {K : Params → PySem.W.Frag} (hn : l.most = some 63) (hdf : d.params.defaults = []) (hr : Room k callerA)
    (hY : ∀ (w : World) (h : Heap), YP w h → (K w.params).In h)
    (F : ∀ (w : World) (mg : Str → Option Value) (fa : Addr) (h : Heap), (K w.params).In h → h.Ns mainGlobals mg → mg d.name = some (.ref fa) →
      ∃ fd : FuncData, (∀ (s : Shared) (u : Value), BindsTo s fd ⟨[u], []⟩ [("script", u)]) ∧ ∀ base : Heap, (K w.params).In base → base.Ns mainGlobals mg → FnOk l.prog w (K w.params) mg base (L2.CX l.prog w) k fa fd ["script"] (spLaw (K w.params))) :
    PySem.W.WalkO q loose XP YP l.row.toRowW d [] (fun f vs => PySem.call f vs) :=
  L2.walk_ofB (n := 63) (k := k) (x := "script") (CX := fun w => L2.CX l.prog w) (sp := fun w => spLaw (K w.params)) hn (by decide) hdf hr hY F (fun _ _ a ns hl hb _ hS => ⟨a, ns, rfl, hS, hl, hb, fun _ => rfl⟩)
    fun _ _ _ _ _ z => by obtain ⟨_, _, _, _, _, _, _, _, _, _, _, _, z⟩ := z; exact z
/-- an error of the class at S is what «except S» names -/
theorem exm_of {K : PySem.W.Frag} {C S : Addr} {b : Bool} (h1 : PySem.W.subIn K (.ref S) (.type "BaseException") = some true) (h2 : PySem.W.isClsIn K S = true) (h3 : PySem.W.typeIn K (.ref S) = some (.type "type")) (h4 : PySem.W.subIn K (.ref C) (.ref S) = some b) :
    PySem.W.exmOne K (.ref C) (.ref S) = some b := by
  have e1 : (PySem.W.subIn K (.ref S) (.type "BaseException") == some true) = true := by rw [h1] <;> rfl
  have e2 : ((PySem.W.clsIn K S).isSome && PySem.W.typeIn K (.ref S) == some (.type "type")) = true := by
    have h2' : (PySem.W.clsIn K S).isSome = true := h2
    rw [h2', h3] <;> rfl
  show (if (PySem.W.subIn K (.ref S) (.type "BaseException") == some true) = true then (if ((PySem.W.clsIn K S).isSome && PySem.W.typeIn K (.ref S) == some (.type "type")) = true then PySem.W.subIn K (.ref C) (.ref S) else none) else none) = some b
  rw [if_pos e1, if_pos e2]
  exact h4
end Bx

set_option Elab.async false
set_option linter.all false
set_option maxRecDepth 100000
/-! Evaluation of the plain functions. -/
namespace Bx
open PySem L2
@[simp] theorem rngA1_ok {j : Int} (h1 : -4611686018427387904 < j) (h2 : j < 4611686018427387904) : rngA1 [.int j] = some (rngD 0 j.toNat) := if_pos (by omega)
@[simp] theorem rngA2_ok {i j : Int} (h1 : -4611686018427387904 < i) (h2 : i < 4611686018427387904) (h3 : -4611686018427387904 < j) (h4 : j < 4611686018427387904) : rngA2 [.int i, .int j] = some (rngD i (j - i).toNat) := if_pos ⟨by omega, by omega⟩
section
variable {α β : Type} {e e1 : En} {x : Exc}
@[simp] theorem Rs.bind_ok {a : α} {k : α → En → Rs β} : (Rs.ok a e).bind k = k a e := (rfl)
@[simp] theorem Rs.bind_exc {k : α → En → Rs β} : (Rs.exc x e).bind k = .exc x e := (rfl)
@[simp] theorem Rs.toS_ok {a : α} {k : α → En → So} : (Rs.ok a e).toS k = k a e := (rfl)
@[simp] theorem Rs.toS_exc {k : α → En → So} : (Rs.exc x e).toS k = .exc x e := (rfl)
@[simp] theorem Rs.opt_some {a : α} : Rs.opt (some a) e = .ok a e := (rfl)
@[simp] theorem Rs.nox_ok {a : α} : (Rs.ok a e).nox = .ok a e := (rfl)
@[simp] theorem So.opt_some : So.opt (some e) = .nx e := (rfl)
@[simp] theorem En.put_mk {sl : List (Option D)} {o : Option Exc} {i : Nat} {d : D} : En.put ⟨sl, o⟩ i d = ⟨sl.set i (some d), o⟩ := (rfl)
@[simp] theorem En.del_mk {sl : List (Option D)} {o : Option Exc} {i : Nat} : En.del ⟨sl, o⟩ i = ⟨sl.set i none, o⟩ := (rfl)
end
@[simp] theorem frz_int {i : Int} : frz (.int i) = .int i := (rfl)
@[simp] theorem frz_bl {i : Bool} : frz (.bl i) = .bl i := (rfl)
@[simp] theorem frz_str {i : Str} : frz (.str i) = .str i := (rfl)
@[simp] theorem frz_ty {i : String} : frz (.ty i) = .ty i := (rfl)
@[simp] theorem frz_non : frz .non = .non := (rfl)
@[simp] theorem frz_nd {k : Kd} {o : Bool} {xs : List D} : frz (.nd k o xs) = .nd k false (frzs xs) := by unfold frz; rfl
@[simp] theorem frzs_nil : frzs [] = [] := (rfl)
@[simp] theorem frzs_cons {x : D} {xs : List D} : frzs (x :: xs) = frz x :: frzs xs := (rfl)
@[simp] theorem frzs_ints : ∀ {ns : List Int}, frzs (ns.map D.int) = ns.map D.int
  | [] => rfl
  | n :: ns => by rw [List.map_cons, frzs_cons, frzs_ints]; rfl
mutual
theorem frz_frz : ∀ d : D, frz (frz d) = frz d
  | .non => rfl | .bl _ => rfl | .int _ => rfl | .str _ => rfl | .ty _ => rfl
  | .nd k o xs => by rw [frz_nd, frz_nd, frzs_frzs xs]
theorem frzs_frzs : ∀ d : List D, frzs (frzs d) = frzs d
  | [] => rfl
  | x :: xs => by rw [frzs_cons, frzs_cons, frz_frz x, frzs_frzs xs]
end
@[simp] theorem frz_id {d : D} : frz (frz d) = frz d := frz_frz d
@[simp] theorem frzs_id {d : List D} : frzs (frzs d) = frzs d := frzs_frzs d
@[simp] theorem frzs_length {d : List D} : (frzs d).length = d.length := frzs_len d
section
variable {e : En} {sl : List (Option D)} {ex : Option Exc}
@[simp] theorem eC_ap {d : D} : eC d e = .ok d e := (rfl)
@[simp] theorem eN_ap {i : Nat} : eN i ⟨sl, ex⟩ = match sl[i]? with
  | some (some d) => .ok (frz d) ⟨sl.set i (some (frz d)), ex⟩
  | _ => .bad := (rfl)
def kBin (g : D → D → Option D) (b : FE) (x : D) (e1 : En) : Rs D := (b e1).bind fun y e2 => .opt (g (frz x) (frz y)) e2
def kBin2 (g : D → D → Option D) (x : D) (y : D) (e2 : En) : Rs D := .opt (g (frz x) (frz y)) e2
@[simp] theorem kBin2_ap {g : D → D → Option D} {x y : D} : kBin2 g x y e = .opt (g (frz x) (frz y)) e := (rfl)
@[simp] theorem kBin_ap {g : D → D → Option D} {b : FE} {x : D} : kBin g b x e = (b e).bind (kBin2 g x) := (rfl)
@[simp] theorem eBin_ap {g : D → D → Option D} {a b : FE} : eBin g a b e = (a e).bind (kBin g b) := (rfl)
@[simp] theorem eUn_ap {g : D → Option D} {a : FE} : eUn g a e = (a e).bind fun x e1 => .opt (g (frz x)) e1 := (rfl)
def kTst (x : D) (e1 : En) : Rs Bool := match x with
  | .bl b => .ok b e1
  | _ => .bad
@[simp] theorem kTst_bl {b : Bool} : kTst (.bl b) e = .ok b e := (rfl)
@[simp] theorem tTst_ap {a : FE} : tTst a e = (a e).bind kTst := (rfl)
def kNt (b : Bool) (e1 : En) : Rs Bool := .ok (!b) e1
@[simp] theorem kNt_ap {b : Bool} : kNt b e = .ok (!b) e := (rfl)
@[simp] theorem tNt_ap {a : FT} : tNt a e = (a e).bind kNt := (rfl)
def kAnd (b : FT) (k : Bool) (e1 : En) : Rs Bool := if k then b e1 else .ok false e1
@[simp] theorem kAnd_t {b : FT} : kAnd b true e = b e := (rfl)
@[simp] theorem kAnd_f {b : FT} : kAnd b false e = .ok false e := (rfl)
theorem kAnd_ap {b : FT} {k : Bool} : kAnd b k e = if k then b e else .ok false e := (rfl)
@[simp] theorem kAnd_d {b : FT} {p : Prop} [Decidable p] : kAnd b (decide p) e = if p then b e else .ok false e := by unfold kAnd; simp
@[simp] theorem kAnd_e {b : FT} {p q : Int} : kAnd b (p == q) e = if p = q then b e else .ok false e := by unfold kAnd; simp
@[simp] theorem kAnd_n {b : FT} {k : Bool} : kAnd b (!k) e = if k then .ok false e else b e := by cases k <;> rfl
@[simp] theorem tAnd_ap {a b : FT} : tAnd a b e = (a e).bind (kAnd b) := (rfl)
def kOr (b : FT) (k : Bool) (e1 : En) : Rs Bool := if k then .ok true e1 else b e1
@[simp] theorem kOr_t {b : FT} : kOr b true e = .ok true e := (rfl)
@[simp] theorem kOr_f {b : FT} : kOr b false e = b e := (rfl)
theorem kOr_ap {b : FT} {k : Bool} : kOr b k e = if k then .ok true e else b e := (rfl)
@[simp] theorem kOr_d {b : FT} {p : Prop} [Decidable p] : kOr b (decide p) e = if p then .ok true e else b e := by unfold kOr; simp
@[simp] theorem kOr_e {b : FT} {p q : Int} : kOr b (p == q) e = if p = q then .ok true e else b e := by unfold kOr; simp
@[simp] theorem kOr_n {b : FT} {k : Bool} : kOr b (!k) e = if k then b e else .ok true e := by cases k <;> rfl
@[simp] theorem tOr_ap {a b : FT} : tOr a b e = (a e).bind (kOr b) := (rfl)
def kEAnd (b : FE) (x : D) (e1 : En) : Rs D := match x with
  | .bl k => if k then b e1 else .ok (.bl false) e1
  | _ => .bad
@[simp] theorem kEAnd_ap {b : FE} {k : Bool} : kEAnd b (.bl k) e = if k then b e else .ok (.bl false) e := (rfl)
@[simp] theorem eAnd_ap {a b : FE} : eAnd a b e = (a e).bind (kEAnd b) := (rfl)
def kEOr (b : FE) (x : D) (e1 : En) : Rs D := match x with
  | .bl k => if k then .ok (.bl true) e1 else b e1
  | _ => .bad
@[simp] theorem kEOr_ap {b : FE} {k : Bool} : kEOr b (.bl k) e = if k then .ok (.bl true) e else b e := (rfl)
@[simp] theorem eOr_ap {a b : FE} : eOr a b e = (a e).bind (kEOr b) := (rfl)
@[simp] theorem eNot_ap {a : FE} : eNot a e = (a e).bind fun x e1 => match x with
  | .bl k => .ok (.bl (!k)) e1
  | _ => .bad := (rfl)
def kIf (a b : FE) (k : Bool) (e1 : En) : Rs D := if k then a e1 else b e1
@[simp] theorem kIf_t {a b : FE} : kIf a b true e = a e := (rfl)
@[simp] theorem kIf_f {a b : FE} : kIf a b false e = b e := (rfl)
theorem kIf_ap {a b : FE} {k : Bool} : kIf a b k e = if k then a e else b e := (rfl)
@[simp] theorem kIf_d {a b : FE} {p : Prop} [Decidable p] : kIf a b (decide p) e = if p then a e else b e := by unfold kIf; simp
@[simp] theorem kIf_e {a b : FE} {p q : Int} : kIf a b (p == q) e = if p = q then a e else b e := by unfold kIf; simp
@[simp] theorem kIf_n {a b : FE} {k : Bool} : kIf a b (!k) e = if k then b e else a e := by cases k <;> rfl
@[simp] theorem eIf_ap {c : FT} {a b : FE} : eIf c a b e = (c e).bind (kIf a b) := (rfl)
@[simp] theorem aNil_ap : aNil e = .ok [] e := (rfl)
def kCons (r : FA) (x : D) (e1 : En) : Rs (List AV) := (r e1).bind fun xs e2 => .ok (.d x :: xs) e2
def kCons2 (x : AV) (xs : List AV) (e2 : En) : Rs (List AV) := .ok (x :: xs) e2
@[simp] theorem kCons2_ap {x : AV} {xs : List AV} : kCons2 x xs e = .ok (x :: xs) e := (rfl)
@[simp] theorem kCons_ap {r : FA} {x : D} : kCons r x e = (r e).bind (kCons2 (.d x)) := (rfl)
@[simp] theorem aCons_ap {a : FE} {r : FA} : aCons a r e = (a e).bind (kCons r) := (rfl)
@[simp] theorem aIo_ap {i : Nat} {r : FA} : aIo i r ⟨sl, ex⟩ = match sl[i]? with
  | some (some _) => (r ⟨sl, ex⟩).bind (kCons2 (.io i))
  | _ => .bad := (rfl)
@[simp] theorem av_d {x : D} : av e (.d x) = some x := (rfl)
@[simp] theorem av_io {i : Nat} : av ⟨sl, ex⟩ (.io i) = (sl[i]?).getD none := (rfl)
@[simp] theorem avs_nil : avs e [] = some [] := (rfl)
@[simp] theorem avs_cons {a : AV} {as : List AV} : avs e (a :: as) = match av e a, avs e as with
  | some d, some ds => some (d :: ds)
  | _, _ => none := (rfl)
@[simp] theorem dvs_nil : dvs [] = some [] := (rfl)
@[simp] theorem dvs_cons {x : D} {as : List AV} : dvs (.d x :: as) = match dvs as with
  | some ds => some (x :: ds)
  | none => none := (rfl)
def kCallB (g : List D → Option D) (as : List AV) (e1 : En) : Rs D := .opt ((avs e1 as).bind g) e1
@[simp] theorem kCallB_ap {g : List D → Option D} {as : List AV} : kCallB g as e = .opt ((avs e as).bind g) e := (rfl)
@[simp] theorem eCallB_ap {g : List D → Option D} {as : FA} : eCallB g as e = (as e).bind (kCallB g) := (rfl)
def kFz (g : List D → Option D) (ds : List D) : Option D := g (frzs ds)
@[simp] theorem kFz_ap {g : List D → Option D} {ds : List D} : kFz g ds = g (frzs ds) := (rfl)
def kCallF (g : List D → Option D) (as : List AV) (e1 : En) : Rs D := .opt ((dvs as).bind (kFz g)) e1
@[simp] theorem kCallF_ap {g : List D → Option D} {as : List AV} : kCallF g as e = .opt ((dvs as).bind (kFz g)) e := (rfl)
@[simp] theorem eCallF_ap {g : List D → Option D} {as : FA} : eCallF g as e = (as e).bind (kCallF g) := (rfl)
def kTup (ds : List D) : Option D := if ds.length ≤ lim then some (.nd .tup false ds) else none
@[simp] theorem kTup_ap {ds : List D} : kTup ds = if ds.length ≤ lim then some (.nd .tup false ds) else none := (rfl)
@[simp] theorem eTup_ap {as : FA} : eTup as e = (as e).bind (kCallF kTup) := (rfl)
def kLst (ds : List D) : Option D := if ds.length ≤ lim then some (.nd .lst true ds) else none
@[simp] theorem kLst_ap {ds : List D} : kLst ds = if ds.length ≤ lim then some (.nd .lst true ds) else none := (rfl)
def kELst (as : List AV) (e1 : En) : Rs D := .opt ((dvs as).bind kLst) e1
@[simp] theorem kELst_ap {as : List AV} : kELst as e = .opt ((dvs as).bind kLst) e := (rfl)
@[simp] theorem eLst_ap {as : FA} : eLst as e = (as e).bind kELst := (rfl)
@[simp] theorem gN_ap {i : Nat} {d : D} : gN i d ⟨sl, ex⟩ = if i < sl.length then some ⟨sl.set i (some d), ex⟩ else none := (rfl)
@[simp] theorem fNext_ap : fNext e = .nx e := (rfl)
def kNx : Option En → So
  | some e2 => .nx e2
  | none => .bad
@[simp] theorem kNx_some : kNx (some e) = .nx e := (rfl)
def kAsg (g : FG) (d : D) (e1 : En) : So := kNx (g d e1)
@[simp] theorem kAsg_ap {g : FG} {d : D} : kAsg g d e = kNx (g d e) := (rfl)
@[simp] theorem fAsg_ap {g : FG} {a : FE} : fAsg g a e = (a e).toS (kAsg g) := (rfl)
def kSIf (t u : FS) (k : Bool) (e1 : En) : So := if k then t e1 else u e1
@[simp] theorem kSIf_t {t u : FS} : kSIf t u true e = t e := (rfl)
@[simp] theorem kSIf_f {t u : FS} : kSIf t u false e = u e := (rfl)
theorem kSIf_ap {t u : FS} {k : Bool} : kSIf t u k e = if k then t e else u e := (rfl)
@[simp] theorem kSIf_d {t u : FS} {p : Prop} [Decidable p] : kSIf t u (decide p) e = if p then t e else u e := by unfold kSIf; simp
@[simp] theorem kSIf_e {a b : FS} {p q : Int} : kSIf a b (p == q) e = if p = q then a e else b e := by unfold kSIf; simp
@[simp] theorem kSIf_n {t u : FS} {k : Bool} : kSIf t u (!k) e = if k then u e else t e := by cases k <;> rfl
@[simp] theorem fIf_ap {c : FT} {t u : FS} : fIf c t u e = (c e).toS (kSIf t u) := (rfl)
def kRet (d : D) (e1 : En) : So := .rt d e1
@[simp] theorem kRet_ap {d : D} : kRet d e = .rt d e := (rfl)
@[simp] theorem fRet_ap {a : FE} : fRet a e = (a e).toS kRet := (rfl)
@[simp] theorem fRetN_ap : fRetN e = .rt .non e := (rfl)
@[simp] theorem fRetV_ap {i : Nat} : fRetV i ⟨sl, ex⟩ = match sl[i]? with
  | some (some d) => .rt d ⟨sl.set i none, ex⟩
  | _ => .bad := (rfl)
def kExpr (_ : D) (e1 : En) : So := .nx e1
@[simp] theorem kExpr_ap {d : D} : kExpr d e = .nx e := (rfl)
@[simp] theorem fExpr_ap {a : FE} : fExpr a e = (a e).toS kExpr := (rfl)
@[simp] theorem fBreak_ap : fBreak e = .bk e := (rfl)
@[simp] theorem fCont_ap : fCont e = .ct e := (rfl)
def kFor (g : FG) (body : FS) (xs : List D) (e1 : En) : So := forL g body xs e1
@[simp] theorem kFor_ap {g : FG} {body : FS} {xs : List D} : kFor g body xs e = forL g body xs e := (rfl)
@[simp] theorem fFor_ap {it : FI} {g : FG} {body : FS} : fFor it g body e = (it e).toS (kFor g body) := (rfl)
def kIE (d : D) (e1 : En) : Rs (List D) := .opt (itsD (frz d)) e1
@[simp] theorem kIE_ap {d : D} : kIE d e = .opt (itsD (frz d)) e := (rfl)
@[simp] theorem iE_ap {a : FE} : iE a e = (a e).bind kIE := (rfl)
def kRng (g : List D → Option (List D)) (as : List AV) (e1 : En) : Rs (List D) := .opt ((dvs as).bind g) e1
@[simp] theorem kRng_ap {g : List D → Option (List D)} {as : List AV} : kRng g as e = .opt ((dvs as).bind g) e := (rfl)
@[simp] theorem iRng1_ap {as : FA} : iRng1 as e = (as e).bind (kRng rngA1) := (rfl)
@[simp] theorem iRng2_ap {as : FA} : iRng2 as e = (as e).bind (kRng rngA2) := (rfl)
def kLcE (acc : List D) (e2 : En) : Rs D := .ok (.nd .lst true acc) e2
@[simp] theorem kLcE_ap {acc : List D} : kLcE acc e = .ok (.nd .lst true acc) e := (rfl)
def kLc (vs : List Nat) (g : FG) (tt : FT) (el : FE) (xs : List D) (e1 : En) : Rs D := (lcL vs g tt el xs [] (delL e1 vs)).bind kLcE
@[simp] theorem kLc_ap {vs : List Nat} {g : FG} {tt : FT} {el : FE} {xs : List D} : kLc vs g tt el xs e = (lcL vs g tt el xs [] (delL e vs)).bind kLcE := (rfl)
@[simp] theorem eLc_ap {vs : List Nat} {it : FI} {g : FG} {tt : FT} {el : FE} : eLc vs it g tt el e = (it e).bind (kLc vs g tt el) := (rfl)
@[simp] theorem tYesF_ap : tYesF e = .ok true e := (rfl)
@[simp] theorem delL_nil : delL e [] = e := (rfl)
@[simp] theorem delL_cons {v : Nat} {vs : List Nat} : delL e (v :: vs) = (delL e vs).del v := (rfl)
def kRefE (i : Nat) (e1 : En) : Option (D × D) → Rs D
  | some (z, d') => .ok z { e1 with sl := e1.sl.set i (some d') }
  | none => .bad
@[simp] theorem kRefE_some {i : Nat} {z d' : D} : kRefE i ⟨sl, ex⟩ (some (z, d')) = .ok z ⟨sl.set i (some d'), ex⟩ := (rfl)
def kIxN2 (i : Nat) (e1 : En) (y : D) : Option (Option D) → Rs D
  | some (some d) => kRefE i e1 (refD d (frz y))
  | _ => .bad
@[simp] theorem kIxN2_some {i : Nat} {y d : D} : kIxN2 i e y (some (some d)) = kRefE i e (refD d (frz y)) := (rfl)
def kIxN (i : Nat) (y : D) (e1 : En) : Rs D := kIxN2 i e1 y (e1.sl[i]?)
@[simp] theorem kIxN_ap {i : Nat} {y : D} : kIxN i y ⟨sl, ex⟩ = kIxN2 i ⟨sl, ex⟩ y (sl[i]?) := (rfl)
@[simp] theorem eIxN_ap {i : Nat} {b : FE} : eIxN i b ⟨sl, ex⟩ = match sl[i]? with
  | some (some _) => (b ⟨sl, ex⟩).bind (kIxN i)
  | _ => .bad := by
  unfold eIxN
  dsimp only
  cases sl[i]? with
  | none => rfl
  | some o =>
    cases o with
    | none => rfl
    | some d0 =>
      dsimp only
      congr 1
      funext y e1
      unfold kIxN kIxN2
      cases e1.sl[i]? with
      | none => rfl
      | some o =>
        cases o with
        | none => rfl
        | some d =>
          dsimp only
          unfold kRefE
          cases refD d (frz y) <;> rfl
@[simp] theorem En.own_ap {i : Nat} : En.own ⟨sl, ex⟩ i = match sl[i]? with
  | some (some (.nd k true xs)) => some (k, xs)
  | _ => none := (rfl)
@[simp] theorem En.ownL_ap {i : Nat} : En.ownL ⟨sl, ex⟩ i = match sl[i]? with
  | some (some (.nd .lst true xs)) => some xs
  | _ => none := (rfl)
def kSetD (i : Nat) (d y : D) (e2 : En) : Option (Kd × List D) → So
  | some (k, xs) => .opt ((setD k xs (frz y) d).map (e2.put i))
  | none => .bad
@[simp] theorem kSetD_some {i : Nat} {d y : D} {k : Kd} {xs : List D} : kSetD i d y e (some (k, xs)) = .opt ((setD k xs (frz y) d).map (e.put i)) := (rfl)
def kSetN2 (i : Nat) (d y : D) (e2 : En) : So := kSetD i d y e2 (e2.own i)
@[simp] theorem kSetN2_ap {i : Nat} {d y : D} : kSetN2 i d y e = kSetD i d y e (e.own i) := (rfl)
def kSetN (i : Nat) (b : FE) (d : D) (e1 : En) : So := if (e1.own i).isSome then (b e1).toS (kSetN2 i d) else .bad
@[simp] theorem kSetN_ap {i : Nat} {b : FE} {d : D} : kSetN i b d e = if (e.own i).isSome then (b e).toS (kSetN2 i d) else .bad := (rfl)
@[simp] theorem fSetN_ap {i : Nat} {b a : FE} : fSetN i b a e = (a e).toS (kSetN i b) := by
  unfold fSetN
  congr 1
  funext d e1
  unfold kSetN
  split
  · congr 1
    funext y e2
    unfold kSetN2 kSetD
    cases e2.own i <;> rfl
  · rfl
def kAppD (i : Nat) (d : D) (e1 : En) : Option (List D) → Rs D
  | some xs => if xs.length < lim then .ok .non (e1.put i (.nd .lst true (xs ++ [d]))) else .bad
  | none => .bad
@[simp] theorem kAppD_some {i : Nat} {d : D} {xs : List D} : kAppD i d e (some xs) = if xs.length < lim then .ok .non (e.put i (.nd .lst true (xs ++ [d]))) else .bad := (rfl)
def kAppN (i : Nat) (d : D) (e1 : En) : Rs D := kAppD i d e1 (e1.ownL i)
@[simp] theorem kAppN_ap {i : Nat} {d : D} : kAppN i d e = kAppD i d e (e.ownL i) := (rfl)
@[simp] theorem eAppN_ap {i : Nat} {a : FE} : eAppN i a e = if (e.ownL i).isSome then (a e).bind (kAppN i) else .bad := by
  unfold eAppN
  rfl
def kAug (i : Nat) (g : D → D → Option D) (d y : D) (e1 : En) : So := .opt ((g d (frz y)).map (e1.put i))
@[simp] theorem kAug_ap {i : Nat} {g : D → D → Option D} {d y : D} : kAug i g d y e = .opt ((g d (frz y)).map (e.put i)) := (rfl)
@[simp] theorem fAug_ap {i : Nat} {g : D → D → Option D} {a : FE} : fAug i g a ⟨sl, ex⟩ = match sl[i]? with
  | some (some d) => if d.sc then (a ⟨sl, ex⟩).toS (kAug i g d) else .bad
  | _ => .bad := (rfl)
@[simp] theorem fAugN_ap {i : Nat} {g : D → D → Option D} {b a : FE} : fAugN i g b a e = if (e.own i).isSome then (b e).toS fun y e1 => (match e1.own i with
  | some (.lst, xs) => (match cpos (.nd .lst true xs) (frz y) with
    | some j => (match xs[j]? with
      | some d => if d.sc then (a e1).toS fun w e2 => .opt ((g d (frz w)).bind fun z => (e2.ownL i).bind fun xs => (setD .lst xs (frz y) z).map fun d' => e2.put i d') else .bad
      | none => .bad)
    | none => .bad)
  | _ => .bad) else .bad := (rfl)
@[simp] theorem takeA_nil : takeA e [] = some ([], e) := (rfl)
@[simp] theorem takeA_d {x : D} {as : List AV} : takeA e (.d x :: as) = (takeA e as).map fun (ds, e2) => (x :: ds, e2) := (rfl)
@[simp] theorem takeA_io {i : Nat} {as : List AV} : takeA ⟨sl, ex⟩ (.io i :: as) = match sl[i]? with
  | some (some d) => (takeA ⟨sl.set i none, ex⟩ as).map fun (ds, e2) => (d :: ds, e2)
  | _ => none := (rfl)
@[simp] theorem putA_nil {os : List (Option D)} : putA [] os e = some e := by cases os <;> rfl
@[simp] theorem putA_d {x : D} {as : List AV} {o : Option D} {os : List (Option D)} : putA (.d x :: as) (o :: os) e = putA as os e := by cases o <;> rfl
@[simp] theorem putA_io {i : Nat} {d : D} {as : List AV} {os : List (Option D)} : putA (.io i :: as) (some d :: os) ⟨sl, ex⟩ = match sl[i]? with
  | some none => putA as os ⟨sl.set i (some d), ex⟩
  | _ => none := (rfl)
def callP (d : D) : Option En → Rs D
  | some e3 => .ok d e3
  | none => .bad
def callX (x : Exc) : Option En → Rs D
  | some e3 => .exc x e3
  | none => .bad
def callF (as : List AV) (e2 : En) : CR → Rs D
  | .ok d os => callP d (putA as os e2)
  | .exc x os => callX x (putA as os e2)
  | .bad => .bad
def callT (n : Nat) (F : List D → CR) (as : List AV) : Option (List D × En) → Rs D
  | some (ds, e2) => if ds.length = n then callF as e2 (F ds) else .bad
  | none => .bad
@[simp] theorem callP_some {d : D} {e3 : En} : callP d (some e3) = .ok d e3 := (rfl)
@[simp] theorem callX_some {x : Exc} {e3 : En} : callX x (some e3) = .exc x e3 := (rfl)
@[simp] theorem callF_ok {as : List AV} {e2 : En} {d : D} {os : List (Option D)} : callF as e2 (.ok d os) = callP d (putA as os e2) := (rfl)
@[simp] theorem callF_exc {as : List AV} {e2 : En} {x : Exc} {os : List (Option D)} : callF as e2 (.exc x os) = callX x (putA as os e2) := (rfl)
@[simp] theorem callT_some {n : Nat} {F : List D → CR} {as : List AV} {ds : List D} {e2 : En} : callT n F as (some (ds, e2)) = if ds.length = n then callF as e2 (F ds) else .bad := (rfl)
def kCall (n : Nat) (F : List D → CR) (as : List AV) (e1 : En) : Rs D := callT n F as (takeA e1 as)
@[simp] theorem kCall_ap {n : Nat} {F : List D → CR} {as : List AV} : kCall n F as e = callT n F as (takeA e as) := (rfl)
@[simp] theorem eCall_ap {n : Nat} {F : List D → CR} {as : FA} : eCall n F as e = (as e).bind (kCall n F) := by
  unfold eCall
  congr 1
end
@[simp] theorem subD_int {i j : Int} : subD (.int i) (.int j) = some (.int (i - j)) := (rfl)
@[simp] theorem ltD_int {i j : Int} : ltD (.int i) (.int j) = some (.bl (decide (i < j))) := (rfl)
@[simp] theorem leD_int {i j : Int} : leD (.int i) (.int j) = some (.bl (decide (i ≤ j))) := (rfl)
@[simp] theorem gtD_int {i j : Int} : gtD (.int i) (.int j) = some (.bl (decide (j < i))) := (rfl)
@[simp] theorem geD_int {i j : Int} : geD (.int i) (.int j) = some (.bl (decide (j ≤ i))) := (rfl)
@[simp] theorem addD_int {i j : Int} : addD (.int i) (.int j) = some (.int (i + j)) := (rfl)
@[simp] theorem mulD_int {i j : Int} : mulD (.int i) (.int j) = if mulOk i j then some (.int (i * j)) else none := (rfl)
@[simp] theorem divD_int {i j : Int} : divD (.int i) (.int j) = if decide (0 < j) && decide (j.natAbs.log2 < 9000) then some (.int (i / j)) else none := (rfl)
@[simp] theorem modD_int {i j : Int} : modD (.int i) (.int j) = if decide (0 < j) then some (.int (i % j)) else none := (rfl)
@[simp] theorem powD_int {i j : Int} : powD (.int i) (.int j) = if decide (0 ≤ j) && decide (j ≤ 1000000) && decide (i.natAbs < 2 ^ 64) then some (.int (i ^ j.toNat)) else none := (rfl)
@[simp] theorem addID_int {i j : Int} : addID (.int i) (.int j) = some (.int (i + j)) := (rfl)
@[simp] theorem negD_int {i : Int} : negD (.int i) = some (.int (-i)) := (rfl)
@[simp] theorem intD_int {i : Int} : intD [.int i] = some (.int i) := (rfl)
@[simp] theorem absD_int {i : Int} : absD [.int i] = some (.int (if i < 0 then -i else i)) := (rfl)
@[simp] theorem maxD_int {i j : Int} : maxD [.int i, .int j] = some (.int (if j > i then j else i)) := (rfl)
@[simp] theorem minD_int {i j : Int} : minD [.int i, .int j] = some (.int (if j < i then j else i)) := (rfl)
@[simp] theorem maxD_lst {o : Bool} {ns : List Int} : maxD [.nd .lst o (ns.map D.int)] = if ns ≠ [] then some (.int (maxI ns)) else none := by simp [maxD, D.seq]
@[simp] theorem minD_lst {o : Bool} {ns : List Int} : minD [.nd .lst o (ns.map D.int)] = if ns ≠ [] then some (.int (minI ns)) else none := by simp [minD, D.seq]
@[simp] theorem sumD_lst {o : Bool} {ns : List Int} : sumD [.nd .lst o (ns.map D.int)] = some (.int ns.sum) := by simp [sumD, D.seq]
@[simp] theorem allD_lst {o : Bool} {ns : List Bool} : allD [.nd .lst o (ns.map D.bl)] = some (.bl (ns.all id)) := by simp [allD, D.seq]
@[simp] theorem anyD_lst {o : Bool} {ns : List Bool} : anyD [.nd .lst o (ns.map D.bl)] = some (.bl (ns.any id)) := by simp [anyD, D.seq]
@[simp] theorem lenD_lst {o : Bool} {xs : List D} : lenD [.nd .lst o xs] = some (.int xs.length) := (rfl)
@[simp] theorem lenD_wl {o : Bool} {xs : List D} : lenD [.nd .wl o xs] = some (.int xs.length) := (rfl)
@[simp] theorem lenD_tup {o : Bool} {xs : List D} : lenD [.nd .tup o xs] = some (.int xs.length) := (rfl)
@[simp] theorem itsD_lst {o : Bool} {xs : List D} : itsD (.nd .lst o xs) = some xs := (rfl)
@[simp] theorem itsD_wl {o : Bool} {xs : List D} : itsD (.nd .wl o xs) = some xs := (rfl)
@[simp] theorem itsD_tup {o : Bool} {xs : List D} : itsD (.nd .tup o xs) = some xs := (rfl)
@[simp] theorem cpos_lst {o : Bool} {xs : List D} {i : Int} : cpos (.nd .lst o xs) (.int i) = ixN xs.length i := (rfl)
@[simp] theorem cpos_wl {o : Bool} {xs : List D} {i : Int} : cpos (.nd .wl o xs) (.int i) = ixN xs.length i := (rfl)
@[simp] theorem cpos_tup {o : Bool} {xs : List D} {i : Int} : cpos (.nd .tup o xs) (.int i) = ixN xs.length i := (rfl)
@[simp] theorem refD_nd {k : Kd} {o : Bool} {xs : List D} {y : D} : refD (.nd k o xs) y = (cpos (.nd k o xs) y).bind fun j => (xs[j]?).map fun d => (frz d, if o then .nd k o (xs.set j (frz d)) else .nd k o xs) := (rfl)
@[simp] theorem setD_lst {xs : List D} {d : D} {i : Int} : setD .lst xs (.int i) d = (ixN xs.length i).map fun j => .nd .lst true (xs.set j d) := (rfl)
@[simp] theorem sc_int {i : Int} : (D.int i).sc = true := (rfl)
@[simp] theorem sc_nd {k : Kd} {o : Bool} {xs : List D} : (D.nd k o xs).sc = false := (rfl)
@[simp] theorem log2_small {n : Nat} (h : n < 1152921504606846976) : (n.log2 < 9000) = True := by
  by_cases z : n = 0
  · subst z; simp
  · have := (Nat.log2_lt (n := n) (k := 60) z).mpr (by omega)
    exact eq_true (by omega)
@[simp] theorem ite_ok {α : Type} {c : Prop} [Decidable c] {x y : α} {e : En} : (if c then Rs.ok x e else Rs.ok y e) = Rs.ok (if c then x else y) e := by split <;> rfl
@[simp] theorem ite_int {c : Prop} [Decidable c] {x y : Int} : (if c then D.int x else D.int y) = D.int (if c then x else y) := by split <;> rfl
@[simp] theorem frz_ite {c : Prop} [Decidable c] {x y : D} : frz (if c then x else y) = if c then frz x else frz y := by split <;> rfl
theorem ixN_nat {n j : Nat} (h : j < n) : ixN n (j : Int) = some j := by unfold ixN; simp; omega
@[simp] theorem outs_nil : ∀ {n j : Nat} {sl : List (Option D)}, outs [] j n sl = List.replicate n none
  | 0, _, _ => rfl
  | n + 1, j, [] => by unfold outs; rw [outs_nil]; rfl
  | n + 1, j, o :: sl => by unfold outs; rw [outs_nil]; rfl
theorem seq_go {P : So → Prop} {s t : FS} {e : En} (e1 : En) (h1 : s e = .nx e1) (h2 : P (t e1)) : P (fSeq s t e) := by unfold fSeq; rw [h1]; exact h2
theorem seq_rt {s t : FS} {e : En} {d : D} {Q : En → Prop} (h : ∃ e1, s e = .rt d e1 ∧ Q e1) : ∃ e1, fSeq s t e = .rt d e1 ∧ Q e1 := by
  obtain ⟨e1, h, q⟩ := h
  exact ⟨e1, by unfold fSeq; rw [h], q⟩
theorem seq_goE {P : So → Prop} {s t : FS} {e : En} (h1 : ∃ e1, s e = .nx e1 ∧ P (t e1)) : P (fSeq s t e) := by obtain ⟨e1, h1, h2⟩ := h1; unfold fSeq; rw [h1]; exact h2
/-- one statement, then the others -/
def So.sq (r : So) (t : FS) : So := match r with
  | .nx e => t e
  | r => r
@[simp] theorem So.sq_nx {t : FS} {e : En} : (So.nx e).sq t = t e := (rfl)
@[simp] theorem So.sq_rt {t : FS} {d : D} {e : En} : (So.rt d e).sq t = .rt d e := (rfl)
@[simp] theorem So.sq_exc {t : FS} {d : Exc} {e : En} : (So.exc d e).sq t = .exc d e := (rfl)
@[simp] theorem So.sq_bk {t : FS} {e : En} : (So.bk e).sq t = .bk e := (rfl)
@[simp] theorem So.sq_ct {t : FS} {e : En} : (So.ct e).sq t = .ct e := (rfl)
@[simp] theorem So.sq_ite {c : Prop} [Decidable c] {x y : So} {t : FS} : (if c then x else y).sq t = if c then x.sq t else y.sq t := by split <;> rfl
@[simp] theorem fSeq_ap {s t : FS} {e : En} : fSeq s t e = (s e).sq t := (rfl)
def So.fin (io : List Nat) (n : Nat) : So → CR
  | .nx e => .ok .non (outs io 0 n e.sl)
  | .rt d e => .ok d (outs io 0 n e.sl)
  | .exc x e => .exc x (outs io 0 n e.sl)
  | _ => .bad
@[simp] theorem fin_nx {io : List Nat} {n : Nat} {e : En} : So.fin io n (.nx e) = .ok .non (outs io 0 n e.sl) := (rfl)
@[simp] theorem fin_rt {io : List Nat} {n : Nat} {d : D} {e : En} : So.fin io n (.rt d e) = .ok d (outs io 0 n e.sl) := (rfl)
@[simp] theorem fin_exc {io : List Nat} {n : Nat} {d : Exc} {e : En} : So.fin io n (.exc d e) = .exc d (outs io 0 n e.sl) := (rfl)
theorem fDef_ap {N : Nat} {io : List Nat} {body : FS} {ds : List D} : fDef N io body ds = So.fin io ds.length (body ⟨ds.map some ++ List.replicate (N - ds.length) none, none⟩) := by
  unfold fDef So.fin
  cases body ⟨ds.map some ++ List.replicate (N - ds.length) none, none⟩ <;> rfl
theorem fDef_rt {os : List (Option D)} {N : Nat} {io : List Nat} {body : FS} {ds : List D} {d : D} (h : ∃ e, body ⟨ds.map some ++ List.replicate (N - ds.length) none, none⟩ = .rt d e ∧ outs io 0 ds.length e.sl = os) : fDef N io body ds = .ok d os := by
  obtain ⟨e, h, ho⟩ := h
  unfold fDef; rw [h, ← ho]
/-- a body that returns -/
def RT (P : D → Prop) (r : So) : Prop := ∃ d e, r = .rt d e ∧ P d
theorem RT.go {N : Nat} {io : List Nat} {body : FS} {ds : List D} {P : D → Prop} (h : RT P (body ⟨ds.map some ++ List.replicate (N - ds.length) none, none⟩)) : ∃ d os, fDef N io body ds = .ok d os ∧ P d := by
  obtain ⟨d, e, h, hp⟩ := h
  exact ⟨d, _, by unfold fDef; rw [h], hp⟩
theorem RT.go0 {N : Nat} {body : FS} {ds : List D} {P : D → Prop} (h : RT P (body ⟨ds.map some ++ List.replicate (N - ds.length) none, none⟩)) : ∃ d, fDef N [] body ds = .ok d (List.replicate ds.length none) ∧ P d := by
  obtain ⟨d, e, h, hp⟩ := h
  exact ⟨d, by unfold fDef; rw [h]; dsimp only; rw [outs_nil], hp⟩
theorem rt_go {N : Nat} {io : List Nat} {body : FS} {ds : List D} {d : D} (h : ∃ e, body ⟨ds.map some ++ List.replicate (N - ds.length) none, none⟩ = .rt d e) : ∃ os, fDef N io body ds = .ok d os := by
  obtain ⟨e, h⟩ := h
  exact ⟨_, by unfold fDef; rw [h]⟩
@[simp] theorem forL_nil {g : FG} {b : FS} {e : En} : forL g b [] e = .nx e := (rfl)
theorem forL_cons {g : FG} {b : FS} {e : En} {x : D} {xs : List D} : forL g b (x :: xs) e = match g x e with
    | none => .bad
    | some e1 => match b e1 with
      | .nx e2 => forL g b xs e2
      | .ct e2 => forL g b xs e2
      | .bk e2 => .nx e2
      | r => r := (rfl)
theorem forL_step {g : FG} {b : FS} {e e1 e2 : En} {x : D} {xs : List D} (h1 : g x e = some e1) (h2 : b e1 = .nx e2) : forL g b (x :: xs) e = forL g b xs e2 := by
  rw [forL_cons, h1]; dsimp only; rw [h2]
theorem forL_ix {g : FG} {b : FS} {I : Nat → En → Prop} : ∀ {xs : List D} {e : En} {j : Nat}, I j e → (∀ i x, xs[i]? = some x → ∀ e, I (j + i) e → ∃ e1 e2, g x e = some e1 ∧ b e1 = .nx e2 ∧ I (j + i + 1) e2) → ∃ e', forL g b xs e = .nx e' ∧ I (j + xs.length) e'
  | [], e, j, h, _ => ⟨e, rfl, h⟩
  | x :: xs, e, j, h, k => by
    obtain ⟨e1, e2, h1, h2, h3⟩ := k 0 x rfl e h
    obtain ⟨e', h4, h5⟩ := forL_ix (xs := xs) (j := j + 1) h3 fun i y hy e he => by
      have z : j + 1 + i = j + (i + 1) := by omega
      rw [z] at he ⊢
      exact k (i + 1) y hy e he
    exact ⟨e', by rw [forL_step h1 h2]; exact h4, by rw [List.length_cons, ← Nat.add_assoc, Nat.add_right_comm]; exact h5⟩
theorem forL_sim {α : Type} {g : FG} {b : FS} (R : α → En → Prop) (step : D → α → α) : ∀ {xs : List D} {e : En} {s : α}, R s e → (∀ x ∈ xs, ∀ s e, R s e → ∃ e1 e2, g x e = some e1 ∧ b e1 = .nx e2 ∧ R (step x s) e2) → ∃ e', forL g b xs e = .nx e' ∧ R (xs.foldl (fun s x => step x s) s) e'
  | [], e, s, h, _ => ⟨e, rfl, h⟩
  | x :: xs, e, s, h, k => by
    obtain ⟨e1, e2, h1, h2, h3⟩ := k x List.mem_cons_self s e h
    obtain ⟨e', h4, h5⟩ := forL_sim R step h3 fun y hy => k y (List.mem_cons_of_mem _ hy)
    exact ⟨e', by rw [forL_step h1 h2]; exact h4, h5⟩
@[simp] theorem gsNil_ap {e : En} : gsNil [] e = some e := (rfl)
@[simp] theorem gsCons_ap {g : FG} {r : FGs} {d : D} {ds : List D} {e : En} : gsCons g r (d :: ds) e = (g d e).bind (r ds) := (rfl)
@[simp] theorem gT_tup {n : Nat} {r : FGs} {o : Bool} {xs : List D} {e : En} : gT n r (.nd .tup o xs) e = if xs.length = n then r (frzs xs) e else none := by
  unfold gT; rw [frz_nd]; dsimp only; rw [frzs_len]
theorem try_exc {i : Nat} {isA : Str → Option Bool} {b u : FS} {e : En} {sl : List (Option D)} {ex : Option Exc} {x : Exc} (h : b e = .exc x ⟨sl, ex⟩) (hA : isA x.c = some true) (hi : i < sl.length) : fTryAs i isA b u e = (u ⟨sl.set i none, some x⟩).calm i := by
  unfold fTryAs; rw [h]; dsimp only; rw [hA]; dsimp only; rw [if_pos hi]; rfl
theorem try_nx {i : Nat} {isA : Str → Option Bool} {b u : FS} {e e1 : En} (h : b e = .nx e1) : fTryAs i isA b u e = .nx e1 := by
  unfold fTryAs; rw [h]
@[simp] theorem calm_nx {i : Nat} {sl : List (Option D)} {ex : Option Exc} : (So.nx ⟨sl, ex⟩).calm i = .nx ⟨sl.set i none, none⟩ := (rfl)
@[simp] theorem calm_rt {i : Nat} {d : D} {sl : List (Option D)} {ex : Option Exc} : (So.rt d ⟨sl, ex⟩).calm i = .rt d ⟨sl.set i none, none⟩ := (rfl)
/-- a for whose turns all go on -/
theorem forL_inv {g : FG} {b : FS} {I : En → Prop} : ∀ {xs : List D} {e : En}, I e → (∀ x ∈ xs, ∀ e, I e → ∃ e1 e2, g x e = some e1 ∧ b e1 = .nx e2 ∧ I e2) → ∃ e', forL g b xs e = .nx e' ∧ I e'
  | [], e, h, _ => ⟨e, rfl, h⟩
  | x :: xs, e, h, k => by
    obtain ⟨e1, e2, h1, h2, h3⟩ := k x List.mem_cons_self e h
    obtain ⟨e', h4, h5⟩ := forL_inv h3 fun y hy => k y (List.mem_cons_of_mem _ hy)
    exact ⟨e', by unfold forL; rw [h1]; dsimp only; rw [h2]; exact h4, h5⟩
/-- a comprehension without tests -/
theorem lcL_map {vs : List Nat} {g : FG} {tt : FT} {el : FE} {base : En} {y : D → D} : ∀ {xs acc : List D}, (∀ x ∈ xs, ∃ e1 e2 e3, g x base = some e1 ∧ tt e1 = .ok true e2 ∧ el e2 = .ok (y x) e3 ∧ delL e3 vs = base) → acc.length + xs.length ≤ lim →
    lcL vs g tt el xs acc base = .ok (acc ++ xs.map y) base
  | [], acc, _, _ => by rw [List.map_nil, List.append_nil]; rfl
  | x :: xs, acc, h, hl => by
    obtain ⟨e1, e2, e3, h1, h2, h3, h4⟩ := h x List.mem_cons_self
    rw [List.length_cons] at hl
    have ih := lcL_map (xs := xs) (acc := acc ++ [y x]) (fun z hz => h z (List.mem_cons_of_mem _ hz)) (by simp; omega)
    unfold lcL
    rw [h1]; dsimp only
    rw [h2, Rs.nox_ok, Rs.bind_ok, if_pos rfl, h3, Rs.nox_ok, Rs.bind_ok, if_pos (by omega), h4, ih]
    simp
theorem lcL_flt {vs : List Nat} {g : FG} {tt : FT} {el : FE} {base : En} {p : D → Bool} {y : D → D} : ∀ {xs acc : List D}, (∀ x ∈ xs, ∃ e1 e2, g x base = some e1 ∧ tt e1 = .ok (p x) e2 ∧ (p x = true → ∃ e3, el e2 = .ok (y x) e3 ∧ delL e3 vs = base) ∧ (p x = false → delL e2 vs = base)) → acc.length + xs.length ≤ lim →
    lcL vs g tt el xs acc base = .ok (acc ++ (xs.filter p).map y) base
  | [], acc, _, _ => by rw [List.filter_nil, List.map_nil, List.append_nil]; rfl
  | x :: xs, acc, h, hl => by
    obtain ⟨e1, e2, h1, h2, h3, h4⟩ := h x List.mem_cons_self
    rw [List.length_cons] at hl
    unfold lcL
    rw [h1]; dsimp only
    rw [h2, Rs.nox_ok, Rs.bind_ok]
    cases hp : p x with
    | true =>
      obtain ⟨e3, h5, h6⟩ := h3 hp
      rw [if_pos rfl, h5, Rs.nox_ok, Rs.bind_ok, if_pos (by omega), h6, lcL_flt (fun z hz => h z (List.mem_cons_of_mem _ hz)) (by simp; omega), List.filter_cons, if_pos hp]
      simp
    | false =>
      rw [if_neg (by simp), h4 hp, lcL_flt (fun z hz => h z (List.mem_cons_of_mem _ hz)) (by omega), List.filter_cons, if_neg (by simp [hp])]
theorem set_same {α : Type} {xs : List α} {j : Nat} {d : α} (h : xs[j]? = some d) : xs.set j d = xs := by
  obtain ⟨h1, h2⟩ := List.getElem?_eq_some_iff.mp h
  rw [← h2, List.set_getElem_self]
theorem rngD_at {lo : Int} {n i : Nat} {x : D} (h : (rngD lo n)[i]? = some x) : i < n ∧ x = .int (lo + i) := by
  unfold rngD at h
  rw [List.getElem?_map] at h
  obtain ⟨j, h1, h2⟩ := Option.map_eq_some_iff.mp h
  obtain ⟨h3, h4⟩ := List.getElem?_eq_some_iff.mp h1
  rw [List.getElem_range] at h4
  subst h4
  exact ⟨by simpa using h3, h2.symm⟩
theorem rngD_mem {lo : Int} {n : Nat} {x : D} (h : x ∈ rngD lo n) : ∃ i : Nat, i < n ∧ x = .int (lo + i) := by
  obtain ⟨i, hi, rfl⟩ := List.mem_map.mp h
  exact ⟨i, List.mem_range.mp hi, rfl⟩
@[simp] theorem rngD_length {lo : Int} {n : Nat} : (rngD lo n).length = n := by simp [rngD]
theorem sum_bound {B : Int} : ∀ {ns : List Int}, (∀ x ∈ ns, 0 ≤ x ∧ x ≤ B) → 0 ≤ ns.sum ∧ ns.sum ≤ B * ns.length
  | [], _ => by simp
  | n :: ns, h => by
    have h1 := h n List.mem_cons_self
    have ih := sum_bound fun x hx => h x (List.mem_cons_of_mem _ hx)
    rw [List.sum_cons, List.length_cons]
    have : B * ((ns.length + 1 : Nat) : Int) = B * ns.length + B := by rw [Int.natCast_add]; simp [Int.mul_add]
    omega
theorem mulOk_of {i j : Int} (hi : i.natAbs < 2 ^ 400000) (hj : j.natAbs < 2 ^ 400000) : mulOk i j = true := by
  unfold mulOk
  have h : ∀ n : Nat, n < 2 ^ 400000 → n.log2 ≤ 400000 := fun n h => by
    by_cases z : n = 0
    · subst z; simp
    · exact Nat.le_of_lt ((Nat.log2_lt z).mpr h)
  have := h _ hi
  have := h _ hj
  exact decide_eq_true (by omega)
theorem mulOk_60 {i j : Int} (hi : i.natAbs < 2 ^ 62) (hj : j.natAbs < 2 ^ 62) : mulOk i j = true :=
  mulOk_of (Nat.lt_of_lt_of_le hi (Nat.pow_le_pow_right (by decide) (by decide))) (Nat.lt_of_lt_of_le hj (Nat.pow_le_pow_right (by decide) (by decide)))
end Bx

set_option Elab.async false
set_option linter.all false
set_option maxRecDepth 100000
/-! Evaluation: places, instances. -/
namespace Bx
open PySem L2
section
variable {e : En} {sl : List (Option D)} {ex : Option Exc}
@[simp] theorem eQ_ap {q : FQ} : eQ q e = .opt (q e) e := (rfl)
@[simp] theorem qC_ap {d : D} : qC d e = some d := (rfl)
def kL (z : D × (D → En)) : Option D := if z.1.isF then some z.1 else none
@[simp] theorem kL_ap {d : D} {S : D → En} : kL (d, S) = if d.isF then some d else none := (rfl)
@[simp] theorem qL_ap {p : FL} : qL p e = (p e).bind kL := (rfl)
def kQBin (g : D → D → Option D) (b : FQ) (e : En) (x : D) : Option D := (b e).bind fun y => g (frz x) (frz y)
def kQBin2 (g : D → D → Option D) (x y : D) : Option D := g (frz x) (frz y)
@[simp] theorem kQBin2_ap {g : D → D → Option D} {x y : D} : kQBin2 g x y = g (frz x) (frz y) := (rfl)
@[simp] theorem kQBin_ap {g : D → D → Option D} {b : FQ} {x : D} : kQBin g b e x = (b e).bind (kQBin2 g x) := (rfl)
@[simp] theorem qBin_ap {g : D → D → Option D} {a b : FQ} : qBin g a b e = (a e).bind (kQBin g b e) := (rfl)
def kQIf (a b : FQ) (e : En) (k : Bool) : Option D := if k then a e else b e
@[simp] theorem kQIf_ap {a b : FQ} {k : Bool} : kQIf a b e k = if k then a e else b e := (rfl)
@[simp] theorem qIf_ap {c : En → Option Bool} {a b : FQ} : qIf c a b e = (c e).bind (kQIf a b e) := (rfl)
@[simp] theorem qTru_ap {a : FQ} : qTru a e = (a e).bind truD := (rfl)
def kCall1 (g : List D → Option D) (z : D × (D → En)) : Option D := g [z.1]
@[simp] theorem kCall1_ap {g : List D → Option D} {d : D} {S : D → En} : kCall1 g (d, S) = g [d] := (rfl)
@[simp] theorem qCall1_ap {g : List D → Option D} {p : FL} : qCall1 g p e = (p e).bind (kCall1 g) := (rfl)
@[simp] theorem lN_ap {i : Nat} : lN i ⟨sl, ex⟩ = match sl[i]? with
  | some (some d) => some (d, fun d' => ⟨sl.set i (some d'), ex⟩)
  | _ => none := (rfl)
def kAt (cs : List Str) (f : Str) (z : D × (D → En)) : Option (D × (D → En)) := match z.1 with
  | .nd (.ins c fn) o xs => if cs.contains c then (kpos fn f).bind fun j => (xs[j]?).map fun x => (x, fun x' => z.2 (.nd (.ins c fn) o (xs.set j x'))) else none
  | _ => none
def kAt2 (c : Str) (fn : List Str) (o : Bool) (xs : List D) (S : D → En) (j : Nat) : Option (D × (D → En)) := (xs[j]?).map fun x => (x, fun x' => S (.nd (.ins c fn) o (xs.set j x')))
@[simp] theorem kAt2_ap {c : Str} {fn : List Str} {o : Bool} {xs : List D} {S : D → En} {j : Nat} : kAt2 c fn o xs S j = (xs[j]?).map fun x => (x, fun x' => S (.nd (.ins c fn) o (xs.set j x'))) := (rfl)
@[simp] theorem kAt_ap {cs : List Str} {f c : Str} {fn : List Str} {o : Bool} {xs : List D} {S : D → En} : kAt cs f (.nd (.ins c fn) o xs, S) = if cs.contains c then (kpos fn f).bind (kAt2 c fn o xs S) else none := (rfl)
@[simp] theorem lAt_ap {cs : List Str} {p : FL} {f : Str} : lAt cs p f e = (p e).bind (kAt cs f) := (rfl)
def kIx (b : FQ) (e : En) (z : D × (D → En)) : Option (D × (D → En)) := (b e).bind fun y => match z.1 with
  | .nd k o xs => (cpos (.nd k o xs) (frz y)).bind fun j => (xs[j]?).map fun x => (x, fun x' => z.2 (.nd k o (xs.set j x')))
  | _ => none
def kIx3 (k : Kd) (o : Bool) (xs : List D) (S : D → En) (j : Nat) : Option (D × (D → En)) := (xs[j]?).map fun x => (x, fun x' => S (.nd k o (xs.set j x')))
@[simp] theorem kIx3_ap {k : Kd} {o : Bool} {xs : List D} {S : D → En} {j : Nat} : kIx3 k o xs S j = (xs[j]?).map fun x => (x, fun x' => S (.nd k o (xs.set j x'))) := (rfl)
def kIx2 (z : D × (D → En)) (y : D) : Option (D × (D → En)) := match z.1 with
  | .nd k o xs => (cpos (.nd k o xs) (frz y)).bind (kIx3 k o xs z.2)
  | _ => none
@[simp] theorem kIx2_ap {k : Kd} {o : Bool} {xs : List D} {S : D → En} {y : D} : kIx2 (.nd k o xs, S) y = (cpos (.nd k o xs) (frz y)).bind (kIx3 k o xs S) := (rfl)
@[simp] theorem kIx_ap {b : FQ} {z : D × (D → En)} : kIx b e z = (b e).bind (kIx2 z) := (rfl)
@[simp] theorem lIx_ap {p : FL} {b : FQ} : lIx p b e = (p e).bind (kIx b e) := (rfl)
def kQP : Option D → Option (Option Int)
  | some (.int i) => some (some i)
  | _ => none
@[simp] theorem kQP_int {i : Int} : kQP (some (.int i)) = some (some i) := (rfl)
@[simp] theorem qP_none : qP none e = some none := (rfl)
@[simp] theorem qP_some {a : FQ} : qP (some a) e = kQP (a e) := by
  unfold qP kQP; rfl
def kFl (z : D) : Option D := if flatZ z then some z else none
@[simp] theorem kFl_ap {z : D} : kFl z = if flatZ z then some z else none := (rfl)
def kSl3 (d : D) (l h : Option Int) : Option D := (sliceD (frz d) l h).bind kFl
@[simp] theorem kSl3_ap {d : D} {l h : Option Int} : kSl3 d l h = (sliceD (frz d) l h).bind kFl := (rfl)
def kSl2 (hi : Option FQ) (e : En) (d : D) (l : Option Int) : Option D := (qP hi e).bind (kSl3 d l)
@[simp] theorem kSl2_ap {hi : Option FQ} {d : D} {l : Option Int} : kSl2 hi e d l = (qP hi e).bind (kSl3 d l) := (rfl)
def kSl1 (lo hi : Option FQ) (e : En) (z : D × (D → En)) : Option D := (qP lo e).bind (kSl2 hi e z.1)
@[simp] theorem kSl1_ap {lo hi : Option FQ} {d : D} {S : D → En} : kSl1 lo hi e (d, S) = (qP lo e).bind (kSl2 hi e d) := (rfl)
@[simp] theorem qSl_ap {p : FL} {lo hi : Option FQ} : qSl p lo hi e = (p e).bind (kSl1 lo hi e) := (rfl)
def kAppL2 (xs : List D) (S : D → En) : Option D → Rs D
  | some d => if xs.length < lim then .ok .non (S (.nd .lst true (xs ++ [d]))) else .bad
  | none => .bad
@[simp] theorem kAppL2_some {xs : List D} {S : D → En} {d : D} : kAppL2 xs S (some d) = if xs.length < lim then .ok .non (S (.nd .lst true (xs ++ [d]))) else .bad := (rfl)
def kAppL (q : FQ) (e : En) : Option (D × (D → En)) → Rs D
  | some (.nd .lst true xs, S) => kAppL2 xs S (q e)
  | _ => .bad
@[simp] theorem kAppL_some {q : FQ} {xs : List D} {S : D → En} : kAppL q e (some (.nd .lst true xs, S)) = kAppL2 xs S (q e) := (rfl)
@[simp] theorem eAppL_ap {p : FL} {q : FQ} : eAppL p q e = kAppL q e (p e) := by
  unfold eAppL kAppL kAppL2
  rfl
@[simp] theorem ownI_ap {cs : List Str} {i : Nat} : En.ownI ⟨sl, ex⟩ cs i = match sl[i]? with
  | some (some (.nd (.ins c fn) true xs)) => if cs.contains c && decide (fn.length < 1000) then some (c, fn, xs) else none
  | _ => none := (rfl)
def kAtS2 (i : Nat) (f : Str) (d : D) (e1 : En) : Option (Str × List Str × List D) → So
  | some (c, fn, xs) => .nx (e1.put i (putFD c fn xs f d))
  | none => .bad
@[simp] theorem kAtS2_some {i : Nat} {f : Str} {d : D} {c : Str} {fn : List Str} {xs : List D} : kAtS2 i f d e (some (c, fn, xs)) = .nx (e.put i (putFD c fn xs f d)) := (rfl)
def kAtS (cs : List Str) (i : Nat) (f : Str) (d : D) (e1 : En) : So := kAtS2 i f d e1 (e1.ownI cs i)
@[simp] theorem kAtS_ap {cs : List Str} {i : Nat} {f : Str} {d : D} : kAtS cs i f d e = kAtS2 i f d e (e.ownI cs i) := (rfl)
@[simp] theorem fAtS_ap {cs : List Str} {i : Nat} {f : Str} {a : FE} : fAtS cs i f a e = (a e).toS (kAtS cs i f) := by
  unfold fAtS
  congr 1
def kAtA3 (i : Nat) (f : Str) (g : D → D → Option D) (c : Str) (d y : D) (e1 : En) : Option (Str × List Str × List D) → So
  | some (c', fn', xs') => if c' = c then (match g d (frz y) with
        | some z => .nx (e1.put i (putFD c' fn' xs' f z))
        | none => .bad) else .bad
  | none => .bad
@[simp] theorem kAtA3_some {i : Nat} {f : Str} {g : D → D → Option D} {c c' : Str} {d y : D} {fn' : List Str} {xs' : List D} : kAtA3 i f g c d y e (some (c', fn', xs')) = if c' = c then (match g d (frz y) with
        | some z => .nx (e.put i (putFD c' fn' xs' f z))
        | none => .bad) else .bad := (rfl)
def kAtA2 (cs : List Str) (i : Nat) (f : Str) (g : D → D → Option D) (c : Str) (d y : D) (e1 : En) : So := kAtA3 i f g c d y e1 (e1.ownI cs i)
@[simp] theorem kAtA2_ap {cs : List Str} {i : Nat} {f : Str} {g : D → D → Option D} {c : Str} {d y : D} : kAtA2 cs i f g c d y e = kAtA3 i f g c d y e (e.ownI cs i) := (rfl)
@[simp] theorem fAtAug_ap {cs : List Str} {i : Nat} {f : Str} {g : D → D → Option D} {a : FE} : fAtAug cs i f g a e = match e.ownI cs i with
  | some (c, fn, xs) => (match (kpos fn f).bind (xs[·]?) with
    | some d => if d.sc then (a e).toS (kAtA2 cs i f g c d) else .bad
    | none => .bad)
  | none => .bad := by
  unfold fAtAug
  cases e.ownI cs i with
  | none => rfl
  | some z =>
    dsimp only
    cases (kpos z.2.1 f).bind (z.2.2[·]?) with
    | none => rfl
    | some d =>
      dsimp only
      split
      · congr 1
      · rfl
@[simp] theorem eAtN_ap {cs : List Str} {i : Nat} {f : Str} : eAtN cs i f ⟨sl, ex⟩ = match sl[i]? with
  | some (some (.nd (.ins c fn) o xs)) => if cs.contains c then (match kpos fn f with
    | some j => (match xs[j]? with
      | some d => .ok (frz d) ⟨sl.set i (some (if o then .nd (.ins c fn) o (xs.set j (frz d)) else .nd (.ins c fn) o xs)), ex⟩
      | none => .bad)
    | none => .bad) else .bad
  | _ => .bad := (rfl)
def kMeth (c0 m : Str) (o : Option (Option D)) (r : Rs D) : Rs D := match o with
  | some (some (.nd (.ins c fn) _ _)) => if c = c0 ∧ kpos fn m = none then r else .bad
  | _ => .bad
@[simp] theorem kMeth_nd {c0 m c : Str} {fn : List Str} {o : Bool} {xs : List D} {r : Rs D} : kMeth c0 m (some (some (.nd (.ins c fn) o xs))) r = if c = c0 ∧ kpos fn m = none then r else .bad := (rfl)
@[simp] theorem eMeth_ap {c0 m : Str} {n i : Nat} {F : List D → CR} {as : FA} : eMeth c0 m n i F as ⟨sl, ex⟩ = kMeth c0 m (sl[i]?) (eCall n F (aIo i as) ⟨sl, ex⟩) := (rfl)
def newF (as : List AV) (e2 : En) : CR → Rs D
  | .ok .non (some d :: os) => callP d (putA as os e2)
  | .exc x (_ :: os) => callX x (putA as os e2)
  | _ => .bad
def newT (c0 : Str) (n : Nat) (F : List D → CR) (as : List AV) : Option (List D × En) → Rs D
  | some (ds, e2) => if ds.length = n then newF as e2 (F (.nd (.ins c0 []) true [] :: ds)) else .bad
  | none => .bad
@[simp] theorem newF_ok {as : List AV} {e2 : En} {d : D} {os : List (Option D)} : newF as e2 (.ok .non (some d :: os)) = callP d (putA as os e2) := (rfl)
@[simp] theorem newF_exc {as : List AV} {e2 : En} {x : Exc} {o : Option D} {os : List (Option D)} : newF as e2 (.exc x (o :: os)) = callX x (putA as os e2) := (rfl)
@[simp] theorem newT_some {c0 : Str} {n : Nat} {F : List D → CR} {as : List AV} {ds : List D} {e2 : En} : newT c0 n F as (some (ds, e2)) = if ds.length = n then newF as e2 (F (.nd (.ins c0 []) true [] :: ds)) else .bad := (rfl)
def kNew (c0 : Str) (n : Nat) (F : List D → CR) (as : List AV) (e1 : En) : Rs D := newT c0 n F as (takeA e1 as)
@[simp] theorem kNew_ap {c0 : Str} {n : Nat} {F : List D → CR} {as : List AV} : kNew c0 n F as e = newT c0 n F as (takeA e as) := (rfl)
@[simp] theorem eNew_ap {c0 : Str} {n : Nat} {F : List D → CR} {as : FA} : eNew c0 n F as e = (as e).bind (kNew c0 n F) := by
  unfold eNew
  congr 1
def kESl3 (x : D) (l h : Option Int) (e3 : En) : Rs D := .opt (sliceD (frz x) l h) e3
@[simp] theorem kESl3_ap {x : D} {l h : Option Int} : kESl3 x l h e = .opt (sliceD (frz x) l h) e := (rfl)
def kESl2 (hi : Option FE) (x : D) (l : Option Int) (e2 : En) : Rs D := (pE hi e2).bind (kESl3 x l)
@[simp] theorem kESl2_ap {hi : Option FE} {x : D} {l : Option Int} : kESl2 hi x l e = (pE hi e).bind (kESl3 x l) := (rfl)
def kESl1 (lo hi : Option FE) (x : D) (e1 : En) : Rs D := (pE lo e1).bind (kESl2 hi x)
@[simp] theorem kESl1_ap {lo hi : Option FE} {x : D} : kESl1 lo hi x e = (pE lo e).bind (kESl2 hi x) := (rfl)
@[simp] theorem eSl_ap {a : FE} {lo hi : Option FE} : eSl a lo hi e = (a e).bind (kESl1 lo hi) := (rfl)
def kPE (x : D) (e1 : En) : Rs (Option Int) := match x with
    | .int i => .ok (some i) e1
    | _ => .bad
@[simp] theorem kPE_int {i : Int} : kPE (.int i) e = .ok (some i) e := (rfl)
@[simp] theorem pE_none : pE none e = .ok none e := (rfl)
@[simp] theorem pE_some {a : FE} : pE (some a) e = (a e).bind kPE := (rfl)
def kTru (d : D) (e1 : En) : Rs Bool := .opt (truD d) e1
@[simp] theorem kTru_ap {d : D} : kTru d e = .opt (truD d) e := (rfl)
@[simp] theorem tTru_ap {a : FE} : tTru a e = (a e).bind kTru := (rfl)
end
@[simp] theorem frzs_app : ∀ {xs ys : List D}, frzs (xs ++ ys) = frzs xs ++ frzs ys
  | [], _ => rfl
  | x :: xs, ys => by rw [List.cons_append, frzs_cons, frzs_cons, frzs_app]; rfl
@[simp] theorem frzs_rep {d : D} : ∀ {n : Nat}, frzs (List.replicate n d) = List.replicate n (frz d)
  | 0 => rfl
  | n + 1 => by rw [List.replicate_succ, List.replicate_succ, frzs_cons, frzs_rep]
@[simp] theorem eKd_ap {t : List (Str × Int)} {b : FE} {e : En} : eKd t b e = (b e).bind (kKd t) := (rfl)
theorem kKd_ap {t : List (Str × Int)} {z : Str} {e : En} {v : Int} (h : tabL t z = some v) : kKd t (.str z) e = .ok (.int v) e := by
  unfold kKd; rw [frz_str]; dsimp only; rw [h]
@[simp] theorem repD_lst {o : Bool} {xs : List D} {k : Int} : repD (.nd .lst o xs) (.int k) = if decide (-4611686018427387904 < k) && decide (k < 4611686018427387904) && decide (xs.length * k.toNat ≤ lim) then some (.nd .lst true (List.replicate k.toNat xs).flatten) else none := (rfl)
def callVF (e : En) : CR → Rs D
  | .ok z _ => if flatZ z then .ok z e else .bad
  | .exc x _ => if x.xs.all D.sc then .exc x e else .bad
  | .bad => .bad
def callV (n : Nat) (F : List D → CR) (e : En) : Option (List D) → Rs D
  | some ds => if ds.length = n ∧ noDks ds = true then callVF e (F (frzs ds)) else .bad
  | none => .bad
def kCallV (n : Nat) (F : List D → CR) (as : List AV) (e : En) : Rs D := callV n F e (avs e as)
@[simp] theorem callVF_ok {z : D} {os : List (Option D)} {e : En} : callVF e (.ok z os) = if flatZ z then .ok z e else .bad := (rfl)
@[simp] theorem callVF_exc {x : Exc} {os : List (Option D)} {e : En} : callVF e (.exc x os) = if x.xs.all D.sc then .exc x e else .bad := (rfl)
@[simp] theorem callV_some {n : Nat} {F : List D → CR} {e : En} {ds : List D} : callV n F e (some ds) = if ds.length = n ∧ noDks ds = true then callVF e (F (frzs ds)) else .bad := (rfl)
@[simp] theorem kCallV_ap {n : Nat} {F : List D → CR} {as : List AV} {e : En} : kCallV n F as e = callV n F e (avs e as) := (rfl)
@[simp] theorem eCallV_ap {n : Nat} {F : List D → CR} {as : FA} {e : En} : eCallV n F as e = (as e).bind (kCallV n F) := by
  unfold eCallV
  congr 1
@[simp] theorem flatZ_int {i : Int} : flatZ (.int i) = true := (rfl)
@[simp] theorem flatZ_bl {i : Bool} : flatZ (.bl i) = true := (rfl)
@[simp] theorem flatZ_str {i : Str} : flatZ (.str i) = true := (rfl)
@[simp] theorem flatZ_non : flatZ .non = true := (rfl)
@[simp] theorem noDk_int {i : Int} : noDk (.int i) = true := by unfold noDk; rfl
@[simp] theorem noDk_bl {i : Bool} : noDk (.bl i) = true := by unfold noDk; rfl
@[simp] theorem noDk_str {i : Str} : noDk (.str i) = true := by unfold noDk; rfl
@[simp] theorem noDk_non : noDk .non = true := by unfold noDk; rfl
@[simp] theorem noDk_lst {o : Bool} {xs : List D} : noDk (.nd .lst o xs) = noDks xs := by unfold noDk; rfl
@[simp] theorem noDk_tup {o : Bool} {xs : List D} : noDk (.nd .tup o xs) = noDks xs := by unfold noDk; rfl
@[simp] theorem noDks_nil : noDks [] = true := by unfold noDks; rfl
@[simp] theorem noDks_cons {x : D} {xs : List D} : noDks (x :: xs) = (noDk x && noDks xs) := by rw [noDks]
@[simp] theorem noDks_app : ∀ {xs ys : List D}, noDks (xs ++ ys) = (noDks xs && noDks ys)
  | [], _ => by simp
  | x :: xs, ys => by rw [List.cons_append, noDks_cons, noDks_cons, noDks_app, Bool.and_assoc]
@[simp] theorem noDks_ints : ∀ {ms : List Int}, noDks (ms.map D.int) = true
  | [] => by simp
  | m :: ms => by rw [List.map_cons, noDks_cons, noDks_ints]; simp
def kChain3 (g' : D → D → Option D) (y w : D) (e : En) : Rs D := .opt (g' (frz y) (frz w)) e
@[simp] theorem kChain3_ap {g' : D → D → Option D} {y w : D} {e : En} : kChain3 g' y w e = .opt (g' (frz y) (frz w)) e := (rfl)
def kChainR (g' : D → D → Option D) (c : FE) (y : D) (e : En) : Option D → Rs D
  | some (.bl k) => if k then (c e).bind (kChain3 g' y) else .ok (.bl false) e
  | _ => .bad
@[simp] theorem kChainR_t {g' : D → D → Option D} {c : FE} {y : D} {e : En} : kChainR g' c y e (some (.bl true)) = (c e).bind (kChain3 g' y) := (rfl)
@[simp] theorem kChainR_f {g' : D → D → Option D} {c : FE} {y : D} {e : En} : kChainR g' c y e (some (.bl false)) = .ok (.bl false) e := (rfl)
@[simp] theorem kChainR_d {g' : D → D → Option D} {c : FE} {y : D} {e : En} {p : Prop} [Decidable p] : kChainR g' c y e (some (.bl (decide p))) = if p then (c e).bind (kChain3 g' y) else .ok (.bl false) e := by
  by_cases h : p <;> simp [h]
def kChain2 (g g' : D → D → Option D) (c : FE) (x y : D) (e : En) : Rs D := kChainR g' c y e (g (frz x) (frz y))
@[simp] theorem kChain2_ap {g g' : D → D → Option D} {c : FE} {x y : D} {e : En} : kChain2 g g' c x y e = kChainR g' c y e (g (frz x) (frz y)) := (rfl)
def kChain (g g' : D → D → Option D) (b c : FE) (x : D) (e : En) : Rs D := (b e).bind (kChain2 g g' c x)
@[simp] theorem kChain_ap {g g' : D → D → Option D} {b c : FE} {x : D} {e : En} : kChain g g' b c x e = (b e).bind (kChain2 g g' c x) := (rfl)
@[simp] theorem eChain_ap {g g' : D → D → Option D} {a b c : FE} {e : En} : eChain g g' a b c e = (a e).bind (kChain g g' b c) := by
  unfold eChain
  congr 1
@[simp] theorem addXD_tup {o o' : Bool} {xs ys : List D} : addXD (.nd .tup o xs) (.nd .tup o' ys) = if xs.length + ys.length ≤ lim then some (.nd .tup false (xs ++ ys)) else none := (rfl)
def kIdx2 (x y : D) (e : En) : Rs D := .opt (idxSD x (frz y)) e
@[simp] theorem kIdx2_ap {x y : D} {e : En} : kIdx2 x y e = .opt (idxSD x (frz y)) e := (rfl)
def kIdxF (a : FE) (e : En) : D → Rs D
  | .nd .lst o xs => (a e).bind (kIdx2 (.nd .lst o xs))
  | _ => .bad
@[simp] theorem kIdxF_lst {a : FE} {e : En} {o : Bool} {xs : List D} : kIdxF a e (.nd .lst o xs) = (a e).bind (kIdx2 (.nd .lst o xs)) := (rfl)
def kIdx (a : FE) (x : D) (e : En) : Rs D := kIdxF a e (frz x)
@[simp] theorem kIdx_ap {a : FE} {x : D} {e : En} : kIdx a x e = kIdxF a e (frz x) := (rfl)
@[simp] theorem eIdx_ap {o a : FE} {e : En} : eIdx o a e = (o e).bind (kIdx a) := by
  unfold eIdx
  congr 1
  funext x e1
  unfold kIdx kIdxF
  split
  · rename_i o' xs h
    rw [h]
    rfl
  · rename_i h
    first
      | rfl
      | (split
         · rename_i o' xs h2; exact absurd h2 (h o' xs)
         · rfl)
@[simp] theorem idxSD_lst {o : Bool} {xs : List D} {y : Str} : idxSD (.nd .lst o xs) (.str y) = (strsD xs).bind fun ss => (spos ss y).map fun (j : Nat) => D.int (j : Int) := (rfl)
@[simp] theorem eGIdx_ap {ss : List Str} {a : FE} {e : En} : eGIdx ss a e = (a e).bind (kGIdx ss) := (rfl)
theorem kGIdx_ap {ss : List Str} {z : Str} {j : Nat} {e : En} (h : spos ss z = some j) : kGIdx ss (.str z) e = .ok (.int (j : Int)) e := by
  unfold kGIdx; rw [frz_str]; dsimp only; rw [h]
def kExt2 (xs : List D) (S : D → En) : Option (D × (D → En)) → Rs D
  | some (.nd .lst _ ys, _) => if ys.all D.sc && decide (xs.length + ys.length ≤ lim) then .ok .non (S (.nd .lst true (xs ++ ys))) else .bad
  | _ => .bad
def kExt (q : FL) (e : En) : Option (D × (D → En)) → Rs D
  | some (.nd .lst true xs, S) => kExt2 xs S (q e)
  | _ => .bad
@[simp] theorem kExt_some {q : FL} {e : En} {xs : List D} {S : D → En} : kExt q e (some (.nd .lst true xs, S)) = kExt2 xs S (q e) := (rfl)
@[simp] theorem kExt2_some {xs ys : List D} {o : Bool} {S S' : D → En} : kExt2 xs S (some (.nd .lst o ys, S')) = if ys.all D.sc && decide (xs.length + ys.length ≤ lim) then .ok .non (S (.nd .lst true (xs ++ ys))) else .bad := (rfl)
@[simp] theorem eExtL_ap {p q : FL} {e : En} : eExtL p q e = kExt q e (p e) := by
  unfold eExtL kExt kExt2
  rfl
@[simp] theorem sc_all {ms : List Int} : (ms.map D.int).all D.sc = true := by
  rw [List.all_map, List.all_eq_true]; intro x _; rfl
def kEnT2 : List D → Option (List D)
  | [d] => (match d.seq with
    | some (false, xs) => some (enumD 0 xs)
    | _ => none)
  | _ => none
@[simp] theorem kEnT2_tup {o : Bool} {xs : List D} : kEnT2 [.nd .tup o xs] = some (enumD 0 xs) := (rfl)
def kEnT (as : List AV) (e : En) : Rs (List D) := .opt ((dvs as).bind fun ds => kEnT2 (frzs ds)) e
def kEnTf (ds : List D) : Option (List D) := kEnT2 (frzs ds)
@[simp] theorem kEnTf_ap {ds : List D} : kEnTf ds = kEnT2 (frzs ds) := (rfl)
@[simp] theorem kEnT_ap {as : List AV} {e : En} : kEnT as e = .opt ((dvs as).bind kEnTf) e := (rfl)
@[simp] theorem iEnT_ap {as : FA} {e : En} : iEnT as e = (as e).bind kEnT := by
  unfold iEnT
  congr 1
@[simp] theorem isF_int {i : Int} : (D.int i).isF = true := (rfl)
@[simp] theorem isF_bl {i : Bool} : (D.bl i).isF = true := (rfl)
@[simp] theorem isF_str {i : Str} : (D.str i).isF = true := (rfl)
@[simp] theorem isF_non : D.non.isF = true := (rfl)
@[simp] theorem isF_nd {k : Kd} {o : Bool} {xs : List D} : (D.nd k o xs).isF = !o := (rfl)
@[simp] theorem truD_bl {i : Bool} : truD (.bl i) = some i := (rfl)
@[simp] theorem truD_int {i : Int} : truD (.int i) = some (i != 0) := (rfl)
@[simp] theorem truD_non : truD .non = some false := (rfl)
@[simp] theorem truD_lst {o : Bool} {xs : List D} : truD (.nd .lst o xs) = some (!xs.isEmpty) := (rfl)
@[simp] theorem andD_int {i : Int} : andD (.int i) (.int 255) = some (.int (i % 256)) := (rfl)
@[simp] theorem listD_lst {o : Bool} {xs : List D} : listD [.nd .lst o xs] = some (.nd .lst true xs) := (rfl)
@[simp] theorem addD_lst {o o' : Bool} {xs ys : List D} : addD (.nd .lst o xs) (.nd .lst o' ys) = if xs.length + ys.length ≤ lim then some (.nd .lst true (xs ++ ys)) else none := by
  unfold addD; simp [D.seq]
@[simp] theorem sliceD_lst {o : Bool} {xs : List D} {lo hi : Option Int} : sliceD (.nd .lst o xs) lo hi = some (.nd .lst true (cutD xs lo hi)) := (rfl)
theorem cutD_upto {xs : List D} {k : Nat} (h : k ≤ xs.length) : cutD xs none (some (k : Int)) = xs.take k := by
  unfold cutD
  rw [HT.sIx_nat, HT.sIx_none, Nat.min_eq_left h]; rfl
theorem cutD_from {xs : List D} {k : Nat} (h : k ≤ xs.length) : cutD xs (some (k : Int)) none = xs.drop k := by
  unfold cutD
  rw [HT.sIx_nat, HT.sIx_none, Nat.min_eq_left h, List.take_of_length_le (by simp)]
theorem cutD_mid {xs : List D} {j k : Nat} (h : k ≤ xs.length) (h2 : j ≤ k) : cutD xs (some (j : Int)) (some (k : Int)) = (xs.take k).drop j := by
  unfold cutD
  rw [HT.sIx_nat, HT.sIx_nat, Nat.min_eq_left h, Nat.min_eq_left (Nat.le_trans h2 h), List.drop_take]
end Bx

set_option Elab.async false
set_option linter.all false
set_option maxRecDepth 100000
/-! What every law draws with: its stock of numbers, its own likeness. -/
namespace Lw
open PySem L2 Bx
def B_law_source : FS := (fSeq (fAsg (gN 2) (eIf (tTst (eBin ltD (eN 1) (eCallB lenD (aIo 0 aNil)))) (eCallB intD (aCons (eIxN 0 (eN 1)) aNil)) (eBin addD (eBin mulD (eC (.int 29)) (eCallB sumD (aCons (eLc [5] (iE (eSl (eN 0) none (some (eC (.int 6))))) (gN 5) tYesF (eBin modD (eCallB intD (aIo 5 aNil)) (eC (.int 999983)))) aNil))) (eC (.int 23))))) (fSeq (fAsg (gN 3) (eBin modD (eCallB absD (aIo 2 aNil)) (eBin mulD (eBin powD (eC (.int 10)) (eC (.int 60))) (eBin powD (eC (.int 10)) (eC (.int 60)))))) (fSeq (fAsg (gN 4) (eBin modD (eCallB intD (aCons (eBin addD (eBin addD (eBin addD (eBin mulD (eC (.int 2)) (eN 3)) (eIf (tTst (eBin ltD (eN 2) (eC (.int 0)))) (eC (.int 1)) (eC (.int 0)))) (eBin mulD (eN 1) (eC (.int 120121)))) (eC (.int 65537))) aNil)) (eC (.int 2147483629)))) (fRet (eLst (aCons (eIf (tTst (eBin geD (eN 3) (eBin powD (eC (.int 10)) (eC (.int 18))))) (eN 3) (eC (.int 0))) (aCons (eBin modD (eCallB intD (aCons (eBin mulD (eBin addD (eN 4) (eC (.int 6151))) (eBin addD (eN 4) (eC (.int 98317)))) aNil)) (eC (.int 2147483629))) (aCons (eN 1) aNil))))))))
def F_law_source : List D → CR := fDef 6 [] B_law_source
def B_law_pick : FS := (fSeq (fIf (tTst (eBin gtD (eIxN 0 (eC (.int 0))) (eC (.int 0)))) (fSeq (fAsg (gN 2) (eBin modD (eCallB intD (aCons (eIxN 0 (eC (.int 0))) aNil)) (eN 1))) (fSeq (fSetN 0 (eC (.int 0)) (eBin divD (eIxN 0 (eC (.int 0))) (eN 1))) (fRetV 2))) fNext) (fSeq (fAugN 0 addID (eC (.int 2)) (eC (.int 1))) (fSeq (fSetN 0 (eC (.int 1)) (eBin modD (eCallB intD (aCons (eBin addD (eBin mulD (eIxN 0 (eC (.int 1))) (eC (.int 48271))) (eBin mulD (eIxN 0 (eC (.int 2))) (eC (.int 60013)))) aNil)) (eC (.int 2147483647)))) (fRet (eBin modD (eBin divD (eBin modD (eCallB intD (aCons (eBin addD (eBin mulD (eIxN 0 (eC (.int 1))) (eC (.int 16807))) (eBin mulD (eIxN 0 (eC (.int 2))) (eC (.int 7411)))) aNil)) (eC (.int 2147483629))) (eC (.int 8))) (eN 1))))))
def F_law_pick : List D → CR := fDef 3 [0] B_law_pick
def F_law_same : Nat → List D → CR
  | 0 => fun _ => .bad
  | n + 1 => fDef 6 [] (fSeq (fIf (tTst (eCallB isiD (aIo 1 (aCons (eC (.ty "dict")) aNil)))) (fSeq (fAsg (gN 2) (eLc [3] (iE (eN 1)) (gN 3) tYesF (eLst (aCons (eN 3) (aCons (eIxN 1 (eN 3)) aNil))))) (fSeq (fIf (tOr (tNt (tTst (eCallB isiD (aIo 0 (aCons (eC (.ty "dict")) aNil))))) (tTst (eBin neD (eCallB lenD (aIo 0 aNil)) (eCallB lenD (aIo 1 aNil))))) (fRet (eC (.bl false))) fNext) (fRet (eCallB allD (aCons (eLc [3, 4] (iE (eN 2)) (gT 2 (gsCons (gN 3) (gsCons (gN 4) gsNil))) tYesF (eAnd (eBin inD (eN 3) (eN 0)) (eCall 2 (F_law_same n) (aCons (eIxN 0 (eN 3)) (aCons (eN 4) aNil))))) aNil))))) fNext) (fSeq (fIf (tTst (eCallB isiD (aIo 1 (aCons (eTup (aCons (eC (.ty "list")) (aCons (eC (.ty "tuple")) aNil))) aNil)))) (fSeq (fIf (tOr (tTst (eBin neD (eCallB isiD (aIo 1 (aCons (eC (.ty "list")) aNil))) (eCallB isiD (aIo 0 (aCons (eC (.ty "list")) aNil))))) (tTst (eBin neD (eCallB isiD (aIo 1 (aCons (eC (.ty "tuple")) aNil))) (eCallB isiD (aIo 0 (aCons (eC (.ty "tuple")) aNil)))))) (fRet (eC (.bl false))) fNext) (fRet (eAnd (eBin eqD (eCallB lenD (aIo 0 aNil)) (eCallB lenD (aIo 1 aNil))) (eCallB allD (aCons (eLc [5] (iRng1 (aCons (eCallB lenD (aIo 1 aNil)) aNil)) (gN 5) tYesF (eCall 2 (F_law_same n) (aCons (eIxN 0 (eN 5)) (aCons (eIxN 1 (eN 5)) aNil)))) aNil))))) fNext) (fRet (eAnd (eOr (eBin isD (eN 0) (eC .non)) (eCallB isiD (aIo 0 (aCons (eTup (aCons (eC (.ty "int")) (aCons (eC (.ty "str")) aNil))) aNil)))) (eBin eqD (eCallB reprD (aIo 0 aNil)) (eCallB reprD (aIo 1 aNil)))))))
/-- a stock: n picks are still free -/
def Stk (n : Nat) (s : D) : Prop := ∃ a b c : Int, s = .nd .lst true [.int a, .int b, .int c] ∧ 0 ≤ a ∧ 0 ≤ b ∧ b < 2147483647 ∧ 0 ≤ c ∧ c + n < 2 ^ 60
theorem pick_ok {n : Nat} {s : D} {m : Int} (h : Stk (n + 1) s) (hm : 0 < m) (hm2 : m < 2 ^ 60) : ∃ r s', F_law_pick [s, .int m] = .ok (.int r) [some s', none] ∧ 0 ≤ r ∧ r < m ∧ Stk n s' := by
  obtain ⟨a, b, c, rfl, ha, hb, hb2, hc, hcn⟩ := h
  have m1 : mulOk b 48271 = true := mulOk_60 (by omega) (by decide)
  have m2 : mulOk (c + 1) 60013 = true := mulOk_60 (by omega) (by decide)
  have m3 : mulOk ((b * 48271 + (c + 1) * 60013) % 2147483647) 16807 = true := mulOk_60 (by omega) (by decide)
  have m4 : mulOk (c + 1) 7411 = true := mulOk_60 (by omega) (by decide)
  unfold F_law_pick fDef B_law_pick
  by_cases h0 : 0 < a
  · have m5 : m.natAbs < 1152921504606846976 := by omega
    simp [fSeq, h0, ixN, hm, m5, outs]
    refine ⟨_, _, ⟨rfl, rfl⟩, Int.emod_nonneg _ (by omega), Int.emod_lt_of_pos _ hm, _, _, _, rfl, Int.ediv_nonneg ha (by omega), hb, hb2, hc, by omega⟩
  · simp [fSeq, h0, ixN, hm, m1, m2, m3, m4, outs]
    refine ⟨_, _, ⟨rfl, rfl⟩, Int.emod_nonneg _ (by omega), Int.emod_lt_of_pos _ hm, _, _, _, rfl, ha, Int.emod_nonneg _ (by omega), Int.emod_lt_of_pos _ (by omega), by omega, by omega⟩
theorem cutD_ints {ns : List Int} {lo hi : Option Int} : ∃ ms : List Int, cutD (ns.map D.int) lo hi = ms.map D.int ∧ ms.length ≤ ns.length := by
  unfold cutD
  refine ⟨List.take (HT.sIx (ns.map D.int).length (ns.map D.int).length hi - HT.sIx (ns.map D.int).length 0 lo) (List.drop (HT.sIx (ns.map D.int).length 0 lo) ns), by rw [List.map_take, List.map_drop], ?_⟩
  rw [List.length_take, List.length_drop]
  omega
theorem source_ok {ns : List Int} {k : Int} (hl : ns.length ≤ 63) (hk : 0 ≤ k) (hk2 : k ≤ 100000) : ∃ s, F_law_source [.nd .wl false (ns.map D.int), .int k] = .ok s [none, none] ∧ Stk (2 ^ 59) s := by
  obtain ⟨ms, hm, hml⟩ := cutD_ints (ns := ns) (lo := none) (hi := some 6)
  have hc : lcL [5] (gN 5) tYesF (eBin modD (eCallB intD (aIo 5 aNil)) (eC (.int 999983))) (ms.map D.int) [] ⟨[some (.nd .wl false (ns.map D.int)), some (.int k), none, none, none, none], none⟩ = .ok ((ms.map fun i : Int => i % 999983).map D.int) ⟨[some (.nd .wl false (ns.map D.int)), some (.int k), none, none, none, none], none⟩ := by
    have h := lcL_map (vs := [5]) (g := gN 5) (tt := tYesF) (el := eBin modD (eCallB intD (aIo 5 aNil)) (eC (.int 999983))) (base := ⟨[some (.nd .wl false (ns.map D.int)), some (.int k), none, none, none, none], none⟩) (y := fun d => match d with | .int i => .int (i % 999983) | d => d) (xs := ms.map D.int) (acc := []) (fun x hx => by
      obtain ⟨i, _, rfl⟩ := List.mem_map.mp hx
      exact ⟨_, _, _, by simp; rfl, rfl, by simp; rfl, by simp⟩) (by simp [lim]; omega)
    rw [h, List.nil_append, List.map_map, List.map_map]
    rfl
  have hsum : 0 ≤ (ms.map fun i : Int => i % 999983).sum ∧ (ms.map fun i : Int => i % 999983).sum ≤ 999983 * (ms.map fun i : Int => i % 999983).length := by
   refine sum_bound (B := 999983) (ns := ms.map fun i : Int => i % 999983) fun x hx => ?_
   · obtain ⟨i, _, rfl⟩ := List.mem_map.mp hx
     exact ⟨Int.emod_nonneg _ (by decide), Int.le_of_lt (Int.emod_lt_of_pos _ (by decide))⟩
  rw [List.length_map] at hsum
  have m1 : mulOk 29 (ms.map fun i : Int => i % 999983).sum = true := mulOk_60 (by decide) (by omega)
  unfold F_law_source
  refine RT.go0 ?_
  unfold B_law_source
  have hs : ∃ cell : Int, (fAsg (gN 2) (eIf (tTst (eBin ltD (eN 1) (eCallB lenD (aIo 0 aNil)))) (eCallB intD (aCons (eIxN 0 (eN 1)) aNil)) (eBin addD (eBin mulD (eC (.int 29)) (eCallB sumD (aCons (eLc [5] (iE (eSl (eN 0) none (some (eC (.int 6))))) (gN 5) tYesF (eBin modD (eCallB intD (aIo 5 aNil)) (eC (.int 999983)))) aNil))) (eC (.int 23))))) ⟨[some (.nd .wl false (ns.map D.int)), some (.int k), none, none, none, none], none⟩ = .nx ⟨[some (.nd .wl false (ns.map D.int)), some (.int k), some (.int cell), none, none, none], none⟩ := by
    by_cases hlt : k < ns.length
    · have hx : ixN ns.length k = some k.toNat := by unfold ixN; simp [hk, hlt]
      have h0 : k.toNat < ns.length := by omega
      simp [hlt, hx, h0]
    · simp [hlt, eSl, pE, sliceD, D.seq, hm]
      rw [hc]
      simp [m1, -List.map_map]
  obtain ⟨cell, hs⟩ := hs
  refine seq_go _ hs ?_
  have m2 : mulOk 1000000000000000000000000000000000000000000000000000000000000 1000000000000000000000000000000000000000000000000000000000000 = true := by decide +kernel
  have hp : (0 : Int) < 1000000000000000000000000000000000000000000000000000000000000000000000000000000000000000000000000000000000000000000000000 := by decide +kernel
  refine seq_goE ⟨⟨[some (.nd .wl false (ns.map D.int)), some (.int k), some (.int cell), some (.int ((if cell < 0 then -cell else cell) % 1000000000000000000000000000000000000000000000000000000000000000000000000000000000000000000000000000000000000000000000000)), none, none], none⟩, ?_, ?_⟩
  · simp [m2, hp]
  generalize hz : (if cell < 0 then -cell else cell) % 1000000000000000000000000000000000000000000000000000000000000000000000000000000000000000000000000000000000000000000000000 = size
  have z0 : 0 ≤ size := by rw [← hz]; exact Int.emod_nonneg _ (by omega)
  have z1 : size < 1000000000000000000000000000000000000000000000000000000000000000000000000000000000000000000000000000000000000000000000000 := by rw [← hz]; exact Int.emod_lt_of_pos _ hp
  have m3 : mulOk 2 size = true := mulOk_of (Nat.lt_of_lt_of_le (by decide : 2 < 2 ^ 2) (Nat.pow_le_pow_right (by decide) (by decide)))
    (Nat.lt_of_lt_of_le (by have h3 : 1000000000000000000000000000000000000000000000000000000000000000000000000000000000000000000000000000000000000000000000000 ≤ 2 ^ 400 := by decide +kernel
                            omega) (Nat.pow_le_pow_right (by decide) (by decide : 400 ≤ 400000)))
  have m4 : mulOk k 120121 = true := mulOk_60 (by omega) (by decide)
  have hb : ∃ b : Int, 2 * size + (if cell < 0 then 1 else 0) + k * 120121 + 65537 = b := ⟨_, rfl⟩
  obtain ⟨b, hb⟩ := hb
  refine seq_goE ⟨⟨[some (.nd .wl false (ns.map D.int)), some (.int k), some (.int cell), some (.int size), some (.int (b % 2147483629)), none], none⟩, ?_, ?_⟩
  · subst hb
    by_cases h0 : cell < 0 <;> simp [m3, m4, h0]
  have q0 : 0 ≤ b % 2147483629 := Int.emod_nonneg _ (by decide)
  have q1 : b % 2147483629 < 2147483629 := Int.emod_lt_of_pos _ (by decide)
  generalize b % 2147483629 = small at q0 q1 ⊢
  have m5 : mulOk (small + 6151) (small + 98317) = true := mulOk_60 (by omega) (by omega)
  by_cases h0 : 1000000000000000000 ≤ size
  · refine ⟨_, _, by simp [m5, h0, lim]; exact ⟨rfl, rfl⟩, ?_⟩
    refine ⟨_, _, _, rfl, by omega, Int.emod_nonneg _ (by decide), ?_, hk, by omega⟩
    have := Int.emod_lt_of_pos ((small + 6151) * (small + 98317)) (by decide : (0 : Int) < 2147483629)
    omega
  · refine ⟨_, _, by simp [m5, h0, lim]; exact ⟨rfl, rfl⟩, ?_⟩
    refine ⟨_, _, _, rfl, by omega, Int.emod_nonneg _ (by decide), ?_, hk, by omega⟩
    have := Int.emod_lt_of_pos ((small + 6151) * (small + 98317)) (by decide : (0 : Int) < 2147483629)
    omega
theorem strOk_ofString (s : String) : PyData.strOk (Str.ofString s) = true := by
  unfold PyData.strOk
  rw [Str.ofString_eq_toList]
  simp
  intro c _
  rcases c.valid with h | ⟨_, h⟩
  · exact Nat.lt_trans h (by decide)
  · exact h
theorem eqD_int {i j : Int} : eqD (.int i) (.int j) = some (.bl (i == j)) := by
  simp [eqD, eqOk, pyd, SeqAt.shaped, PyData.eqv, PyData.canLay0, PyData.depth]
theorem neD_int {i j : Int} : neD (.int i) (.int j) = some (.bl (!(i == j))) := by
  simp [neD, eqOk, pyd, SeqAt.shaped, PyData.eqv, PyData.canLay0, PyData.depth]
theorem neD_bl {i j : Bool} : neD (.bl i) (.bl j) = some (.bl (!(i == j))) := by
  simp [neD, eqOk, pyd, SeqAt.shaped, PyData.eqv, PyData.canLay0, PyData.depth]
theorem eqD_str {i j : Str} (hi : PyData.strOk i = true) (hj : PyData.strOk j = true) : eqD (.str i) (.str j) = some (.bl (i == j)) := by
  simp [eqD, eqOk, pyd, SeqAt.shaped, PyData.eqv, PyData.canLay0, PyData.depth, hi, hj]
/-- a comprehension without tests, an invariant kept -/
theorem lcL_inv {vs : List Nat} {g : FG} {tt : FT} {el : FE} {I : En → Prop} {y : D → D} : ∀ {xs acc : List D} {e : En}, I e → (∀ x ∈ xs, ∀ e, I e → ∃ e1 e2 e3, g x e = some e1 ∧ tt e1 = .ok true e2 ∧ el e2 = .ok (y x) e3 ∧ I (delL e3 vs)) → acc.length + xs.length ≤ lim →
    ∃ e', lcL vs g tt el xs acc e = .ok (acc ++ xs.map y) e' ∧ I e'
  | [], acc, e, hi, _, _ => ⟨e, by rw [List.map_nil, List.append_nil]; rfl, hi⟩
  | x :: xs, acc, e, hi, h, hl => by
    obtain ⟨e1, e2, e3, h1, h2, h3, h4⟩ := h x List.mem_cons_self e hi
    rw [List.length_cons] at hl
    obtain ⟨e', ih, hi'⟩ := lcL_inv (xs := xs) (acc := acc ++ [y x]) h4 (fun z hz => h z (List.mem_cons_of_mem _ hz)) (by simp; omega)
    refine ⟨e', ?_, hi'⟩
    unfold lcL
    rw [h1]; dsimp only
    rw [h2, Rs.nox_ok, Rs.bind_ok, if_pos rfl, h3, Rs.nox_ok, Rs.bind_ok, if_pos (by omega), ih]
    simp
/-- what _law_same looks through, at most n levels -/
def okS : Nat → D → Bool
  | 0, _ => false
  | n + 1, d => match d with
    | .non => true
    | .bl _ => true
    | .int i => decide (i.natAbs.log2 < 1920)
    | .str x => decide ((reprText x).length ≤ 16000000) && PyData.strOk (reprText x)
    | .nd .lst _ xs => decide (xs.length < 2 ^ 20) && xs.all (okS n)
    | .nd .tup _ xs => decide (xs.length < 2 ^ 20) && xs.all (okS n)
    | _ => false
theorem frz_sc {a b : D} (h : frz a = frz b) (hb : b.sc = true) : a = b := by
  cases b with
  | nd _ _ _ => cases hb
  | _ => cases a <;> simp_all
theorem frz_seq {a : D} {k : Kd} {o : Bool} {xs : List D} (h : frz a = frz (.nd k o xs)) : ∃ o' ys, a = .nd k o' ys ∧ frzs ys = frzs xs := by
  cases a with
  | nd k' o' ys =>
    rw [frz_nd, frz_nd] at h
    injection h with h1 h2 h3
    subst h1
    exact ⟨o', ys, rfl, h3⟩
  | _ => simp at h
theorem frzs_at : ∀ {xs : List D} {i : Nat}, (frzs xs)[i]? = (xs[i]?).map frz
  | [], _ => rfl
  | x :: xs, 0 => rfl
  | x :: xs, i + 1 => by rw [frzs_cons, List.getElem?_cons_succ, List.getElem?_cons_succ, frzs_at]
theorem same_sc {n : Nat} {d : D} (hd : d.sc = true) (h : okS (n + 1) d = true) : F_law_same (n + 1) [d, d] = .ok (.bl true) [none, none] := by
  unfold F_law_same
  cases d with
  | nd _ _ _ => cases hd
  | ty _ => simp [okS] at h
  | int i =>
    have h' : i.natAbs.log2 < 1920 := by simpa [okS] using h
    simp [lim, fDef, fSeq, isiD, tyD, tyNs, subT, tysD, isD, reprD, eqD_str, h', strOk_ofString]
  | non => 
    simp [lim, fDef, fSeq, isiD, tyD, tyNs, subT, tysD, isD, reprD, eqD_str, strOk_ofString]
  | bl k =>
    cases k <;> simp [lim, fDef, fSeq, isiD, tyD, tyNs, subT, tysD, isD, reprD, eqD_str, strOk_ofString]
  | str x => 
    have h' : (reprText x).length ≤ 16000000 ∧ PyData.strOk (reprText x) = true := by simpa [okS] using h
    simp [lim, fDef, fSeq, isiD, tyD, tyNs, subT, tysD, isD, reprD, eqD_str, h'.1, h'.2]
theorem frzs_map : ∀ xs : List D, frzs xs = xs.map frz
  | [] => rfl
  | x :: xs => by rw [frzs_cons, List.map_cons, frzs_map xs]
theorem frzs_set {xs : List D} {i : Nat} {d : D} (h : xs[i]? = some d) : frzs (xs.set i (frz d)) = frzs xs := by
  apply List.ext_getElem?
  intro j
  rw [frzs_at, frzs_at, List.getElem?_set]
  split
  · rename_i e
    subst e
    have hl : i < xs.length := (List.getElem?_eq_some_iff.mp h).1
    rw [if_pos hl, h, Option.map_some, Option.map_some, frz_frz]
  · rfl
theorem okS_frz : ∀ (n : Nat) (d : D), okS n (frz d) = okS n d
  | 0, _ => rfl
  | n + 1, d => by
    cases d with
    | nd k o xs =>
      have h : (frzs xs).all (okS n) = xs.all (okS n) := by
        rw [frzs_map, List.all_map]
        congr 1
        funext x
        exact okS_frz n x
      rw [frz_nd]
      cases k <;> simp [okS, h, frzs_len]
    | _ => rfl
theorem same_seq {n : Nat} {k : Kd} (hk : k = .lst ∨ k = .tup) (ih : ∀ a b, frz a = frz b → okS n b = true → F_law_same n [a, b] = .ok (.bl true) [none, none]) {o o' : Bool} {xs ys : List D} (he : frzs ys = frzs xs) (hl : xs.length < 2 ^ 20) (hx : ∀ x ∈ xs, okS n x = true) :
    F_law_same (n + 1) [.nd k o' ys, .nd k o xs] = .ok (.bl true) [none, none] := by
  have hlen : ys.length = xs.length := by rw [← frzs_len ys, he, frzs_len]
  have hr : (xs.length : Int) < 4611686018427387904 := by omega
  have hr0 : -4611686018427387904 < (xs.length : Int) := by omega
  have key : ∃ e', lcL [5] (gN 5) tYesF (eCall 2 (F_law_same n) (aCons (eIxN 0 (eN 5)) (aCons (eIxN 1 (eN 5)) aNil))) (rngD 0 xs.length) [] ⟨[some (.nd k o' ys), some (.nd k o xs), none, none, none, none], none⟩ = .ok ([] ++ (rngD 0 xs.length).map fun _ => .bl true) e' ∧ ∃ o1 ys1 o2 xs1, e' = ⟨[some (.nd k o1 ys1), some (.nd k o2 xs1), none, none, none, none], none⟩ ∧ frzs ys1 = frzs xs ∧ frzs xs1 = frzs xs := by
    refine lcL_inv (I := fun e => ∃ o1 ys1 o2 xs1, e = ⟨[some (.nd k o1 ys1), some (.nd k o2 xs1), none, none, none, none], none⟩ ∧ frzs ys1 = frzs xs ∧ frzs xs1 = frzs xs) ⟨o', ys, o, xs, rfl, he, rfl⟩ (fun x hxm e hI => ?_) (by simp [rngD, lim]; omega)
    obtain ⟨o1, ys1, o2, xs1, rfl, h1, h2⟩ := hI
    obtain ⟨i, hi, rfl⟩ := List.mem_map.mp hxm
    have hi := List.mem_range.mp hi
    have l1 : ys1.length = xs.length := by rw [← frzs_len ys1, h1, frzs_len]
    have l2 : xs1.length = xs.length := by rw [← frzs_len xs1, h2, frzs_len]
    obtain ⟨d, hd⟩ : ∃ d, xs[i]? = some d := ⟨_, List.getElem?_eq_getElem hi⟩
    obtain ⟨d1, hd1⟩ : ∃ d, ys1[i]? = some d := ⟨_, List.getElem?_eq_getElem (by omega)⟩
    obtain ⟨d2, hd2⟩ : ∃ d, xs1[i]? = some d := ⟨_, List.getElem?_eq_getElem (by omega)⟩
    have f1 : frz d1 = frz d := by
      have := congrArg (·[i]?) h1
      simp only [frzs_at, hd, hd1, Option.map_some] at this
      exact Option.some.inj this
    have f2 : frz d2 = frz d := by
      have := congrArg (·[i]?) h2
      simp only [frzs_at, hd, hd2, Option.map_some] at this
      exact Option.some.inj this
    have i1 : ixN ys1.length (i : Int) = some i := ixN_nat (by omega)
    have i2 : ixN xs1.length (i : Int) = some i := ixN_nat (by omega)
    have g1 : okS n (frz d2) = true := by rw [f2, okS_frz]; exact hx d (List.mem_of_getElem? hd)
    have hq := ih (frz d1) (frz d2) (by rw [frz_frz, frz_frz, f1, f2]) g1
    have c1 : ∀ o ys, cpos (.nd k o ys) (.int (i : Int)) = ixN ys.length (i : Int) := fun o ys => by rcases hk with rfl | rfl <;> rfl
    cases o1 <;> cases o2
    · exact ⟨_, _, _, by simp; rfl, rfl, by simp [c1, i1, i2, hd1, hd2, hq]; rfl, false, ys1, false, xs1, by simp, h1, h2⟩
    · exact ⟨_, _, _, by simp; rfl, rfl, by simp [c1, i1, i2, hd1, hd2, hq]; rfl, false, ys1, true, xs1.set i (frz d2), by simp, h1, by rw [frzs_set hd2, h2]⟩
    · exact ⟨_, _, _, by simp; rfl, rfl, by simp [c1, i1, i2, hd1, hd2, hq]; rfl, true, ys1.set i (frz d1), false, xs1, by simp, by rw [frzs_set hd1, h1], h2⟩
    · exact ⟨_, _, _, by simp; rfl, rfl, by simp [c1, i1, i2, hd1, hd2, hq]; rfl, true, ys1.set i (frz d1), true, xs1.set i (frz d2), by simp, by rw [frzs_set hd1, h1], by rw [frzs_set hd2, h2]⟩
  obtain ⟨e', hk', o1, ys1, o2, xs1, rfl, _, _⟩ := key
  have hall : ((rngD 0 xs.length).map fun _ => D.bl true) = (List.replicate xs.length true).map D.bl := by
    rw [List.map_replicate]
    unfold rngD
    rw [List.map_map, List.eq_replicate_iff]
    refine ⟨by simp, fun b hb => ?_⟩
    obtain ⟨_, _, rfl⟩ := List.mem_map.mp hb
    rfl
  rw [List.nil_append, hall] at hk'
  unfold F_law_same
  rcases hk with rfl | rfl
  · simp [lim, fDef, fSeq, isiD, tyD, tyNs, subT, tysD, neD_bl, eqD_int, hlen, hr, hr0, hk', -List.map_replicate]
  · simp [lim, fDef, fSeq, isiD, tyD, tyNs, subT, tysD, neD_bl, eqD_int, hlen, hr, hr0, hk', -List.map_replicate]
theorem same_ok : ∀ (n : Nat) (a b : D), frz a = frz b → okS n b = true → F_law_same n [a, b] = .ok (.bl true) [none, none]
  | 0, _, _, _, h => by simp [okS] at h
  | n + 1, a, b, he, h => by
    by_cases hb : b.sc = true
    · rw [frz_sc he hb]; exact same_sc hb h
    · cases b with
      | nd k o xs =>
        obtain ⟨o', ys, rfl, hf⟩ := frz_seq he
        cases k with
        | lst =>
          have h' : xs.length < 2 ^ 20 ∧ ∀ x ∈ xs, okS n x = true := by simpa [okS] using h
          exact same_seq (.inl rfl) (same_ok n) hf h'.1 h'.2
        | tup =>
          have h' : xs.length < 2 ^ 20 ∧ ∀ x ∈ xs, okS n x = true := by simpa [okS] using h
          exact same_seq (.inr rfl) (same_ok n) hf h'.1 h'.2
        | _ => simp [okS] at h
      | _ => exact absurd rfl hb
end Lw

set_option Elab.async false
set_option linter.all false
set_option maxRecDepth 100000
/-! Evaluation: dicts, sets, what is looked through. -/
namespace Bx
open PySem L2
section
variable {e : En} {sl : List (Option D)} {ex : Option Exc}
def kMem (neg : Bool) (e1 : En) : Option Bool → Rs D
  | some k => .ok (.bl (if neg then !k else k)) e1
  | none => .bad
@[simp] theorem kMem_t {k : Bool} : kMem true e (some k) = .ok (.bl (!k)) e := (rfl)
@[simp] theorem kMem_f {k : Bool} : kMem false e (some k) = .ok (.bl k) e := (rfl)
def kInL2 (neg : Bool) (y : D) (e1 : En) : Option (D × (D → En)) → Rs D
  | some (d, _) => kMem neg e1 (memD (frz y) d)
  | none => .bad
@[simp] theorem kInL2_some {neg : Bool} {y d : D} {S : D → En} : kInL2 neg y e (some (d, S)) = kMem neg e (memD (frz y) d) := (rfl)
def kInL (neg : Bool) (p : FL) (y : D) (e1 : En) : Rs D := kInL2 neg y e1 (p e1)
@[simp] theorem kInL_ap {neg : Bool} {p : FL} {y : D} : kInL neg p y e = kInL2 neg y e (p e) := (rfl)
@[simp] theorem eInL_ap {neg : Bool} {a : FE} {p : FL} : eInL neg a p e = (a e).bind (kInL neg p) := by
  unfold eInL
  congr 1
def kDc2 (acc : List (Key × D)) (e2 : En) : Rs D := .ok (.nd (.dk (acc.map (·.1))) true (acc.map (·.2))) e2
@[simp] theorem kDc2_ap {acc : List (Key × D)} : kDc2 acc e = .ok (.nd (.dk (acc.map (·.1))) true (acc.map (·.2))) e := (rfl)
def kDc (vs : List Nat) (g : FG) (tt : FT) (ke ve : FE) (xs : List D) (e1 : En) : Rs D := (dcL vs g tt ke ve xs [] (delL e1 vs)).bind kDc2
@[simp] theorem kDc_ap {vs : List Nat} {g : FG} {tt : FT} {ke ve : FE} {xs : List D} : kDc vs g tt ke ve xs e = (dcL vs g tt ke ve xs [] (delL e vs)).bind kDc2 := (rfl)
@[simp] theorem eDc_ap {vs : List Nat} {it : FI} {g : FG} {tt : FT} {ke ve : FE} : eDc vs it g tt ke ve e = (it e).bind (kDc vs g tt ke ve) := (rfl)
def kIK (d : D) (e1 : En) : Rs (List D) := .opt (keysOfD (frz d)) e1
@[simp] theorem kIK_ap {d : D} : kIK d e = .opt (keysOfD (frz d)) e := (rfl)
@[simp] theorem iK_ap {a : FE} : iK a e = (a e).bind kIK := (rfl)
def kGetC (d : D) : List D → Option D
  | [y, z] => getA (frz d) (frz y) z
  | _ => none
@[simp] theorem kGetC_two {d y z : D} : kGetC d [y, z] = getA (frz d) (frz y) z := (rfl)
def kGetB (d : D) (xs : List AV) (e2 : En) : Rs D := .opt ((dvs xs).bind (kGetC d)) e2
@[simp] theorem kGetB_ap {d : D} {xs : List AV} : kGetB d xs e = .opt ((dvs xs).bind (kGetC d)) e := (rfl)
def kGetA (as : FA) (d : D) (e1 : En) : Rs D := if isDictD d then (as e1).bind (kGetB d) else .bad
@[simp] theorem kGetA_nd {as : FA} {k : Kd} {o : Bool} {xs : List D} : kGetA as (.nd k o xs) e = if k.isD then (as e).bind (kGetB (.nd k o xs)) else .bad := (rfl)
@[simp] theorem eGetA_ap {a : FE} {as : FA} : eGetA a as e = (a e).bind (kGetA as) := by
  unfold eGetA
  congr 1
def kDisp (as : List AV) (e1 : En) : Rs D := .opt ((dvs as).bind dispD) e1
@[simp] theorem kDisp_ap {as : List AV} : kDisp as e = .opt ((dvs as).bind dispD) e := (rfl)
@[simp] theorem eDispN_ap {as : FA} : eDispN as e = (as e).bind kDisp := (rfl)
@[simp] theorem eDk0_ap : eDk0 e = .ok (.nd (.dk []) true []) e := (rfl)
@[simp] theorem eDn0_ap : eDn0 e = .ok (.nd (.dn []) true []) e := (rfl)
end
@[simp] theorem isD_dk {ks : List Key} : (Kd.dk ks).isD = true := (rfl)
@[simp] theorem isD_dn {ks : List NestedKey} : (Kd.dn ks).isD = true := (rfl)
theorem fSdl_at {i j j1 : Nat} {b k : FQ} {body : FS} {e : En} {ds xs : List D} {n y d : D} {ks : List Key} {key : Key} (h1 : e.sl[i]? = some (some (.nd .lst true ds))) (h2 : b e = some n) (h3 : k e = some y) (h4 : sdRow ds (frz n) (frz y) = some (j1, ks, xs, key)) (h5 : i ≠ j) (h6 : j < e.sl.length) (h7 : xs.length < lim)
    (hd : (sdKey ks xs key).2.1[(sdKey ks xs key).2.2]? = some d) : fSdl i j b k body e = sdBack i j ds j1 (sdKey ks xs key) (body (e.lend i j d)) := by
  unfold fSdl
  rw [h1]; dsimp only
  rw [h2, h3]; dsimp only
  rw [h4]; dsimp only
  rw [hd]; dsimp only
  rw [if_pos ⟨h5, h6, h7⟩]
/-- a dict comprehension without tests, its keys each once -/
theorem dcL_map {vs : List Nat} {g : FG} {tt : FT} {ke ve : FE} {base : En} {kf : D → Key} {y : D → D} : ∀ {xs : List D} {acc : List (Key × D)}, (∀ x ∈ xs, ∃ e1 e2 e3 e4 dk, g x base = some e1 ∧ tt e1 = .ok true e2 ∧ ke e2 = .ok dk e3 ∧ keyD dk = some (kf x) ∧ ve e3 = .ok (y x) e4 ∧ delL e4 vs = base) →
    (acc.map (·.1) ++ xs.map kf).Nodup → acc.length + xs.length ≤ lim → dcL vs g tt ke ve xs acc base = .ok (acc ++ xs.map fun x => (kf x, y x)) base
  | [], acc, _, _, _ => by rw [List.map_nil, List.append_nil]; rfl
  | x :: xs, acc, h, nd, hl => by
    obtain ⟨e1, e2, e3, e4, dk, h1, h2, h3, h4, h5, h6⟩ := h x List.mem_cons_self
    rw [List.length_cons] at hl
    have new : kpos (acc.map (·.1)) (kf x) = none := by
      cases z : kpos (acc.map (·.1)) (kf x) with
      | none => rfl
      | some j =>
        have mem := kpos_mem.mp (show (kpos (acc.map (·.1)) (kf x)).isSome = true by rw [z]; rfl)
        rw [List.nodup_append] at nd
        exact absurd rfl (nd.2.2 _ mem _ (by rw [List.map_cons]; exact List.mem_cons_self))
    have ih := dcL_map (xs := xs) (acc := acc ++ [(kf x, y x)]) (fun z hz => h z (List.mem_cons_of_mem _ hz)) (by rw [List.map_append, List.append_assoc]; exact nd) (by simp; omega)
    unfold dcL
    rw [h1]; dsimp only
    rw [h2, Rs.nox_ok, Rs.bind_ok, if_pos rfl, h3, Rs.nox_ok, Rs.bind_ok, h5, Rs.nox_ok, Rs.bind_ok, h4]
    dsimp only
    rw [if_pos ⟨by omega, new⟩, h6, ih]
    simp
end Bx

set_option Elab.async false
set_option linter.all false
set_option maxRecDepth 100000
/-! Evaluation: calls at places, `<` of data, lent items. -/
namespace Bx
open PySem L2
section
variable {e : En} {sl : List (Option D)} {ex : Option Exc}
@[simp] theorem evQ_nil : evQ [] e = some [] := (rfl)
@[simp] theorem evQ_cons {q : FQ} {qs : List FQ} : evQ (q :: qs) e = (q e).bind fun d => (evQ qs e).map (d :: ·) := (rfl)
@[simp] theorem backP_ok {S : D → En} {z d : D} {os : List (Option D)} : backP S (.ok z (some d :: os)) = .ok z (S d) := (rfl)
@[simp] theorem backP_exc {S : D → En} {x : Exc} {d : D} {os : List (Option D)} : backP S (.exc x (some d :: os)) = .exc x (S d) := (rfl)
theorem eCallP_at {n : Nat} {F : List D → CR} {p : FL} {qs : List FQ} {d : D} {S : D → En} {ds : List D} (h1 : p e = some (d, S)) (h2 : evQ qs e = some ds) (h3 : d.isF = false) (h4 : ds.length + 1 = n) : eCallP n F p qs e = backP S (F (d :: frzs ds)) := by
  unfold eCallP
  rw [h1]; dsimp only
  rw [h2]; dsimp only
  rw [if_pos ⟨h3, h4⟩]
end
end Bx

set_option Elab.async false
set_option linter.all false
set_option maxRecDepth 100000
set_option maxHeartbeats 1000000
/-! Tables of couples: what the package's defs over them answer. -/
namespace Lw
open PySem L2 Bx
noncomputable section
def B_check_bear : FS := (fSeq (fAsg (gN 2) (eCallF setOfD (aCons (eLc [3] (iE (eN 0)) (gN 3) tYesF (eCallF tupleD (aCons (eN 3) aNil))) aNil))) (fFor (iE (eN 1)) (gN 3) (fIf (tTst (eInL true (eCallF tupleD (aCons (eN 3) aNil)) (lN 2))) (fRaise "BadRow" ["what"] (aCons (eC (.str "bear")) aNil)) fNext)))
def F_check_bear : List D → CR := fDef 4 [] B_check_bear
def B_check_end : FS := (fIf (tTst (eBin notInD (eN 0) (eTup (aCons (eC (.int 0)) (aCons (eC (.int 1)) aNil))))) (fRaise "BadRow" ["what"] (aCons (eC (.str "numbers")) aNil)) fNext)
def F_check_end : List D → CR := fDef 1 [] B_check_end
def B_moves_of : FS := (fSeq (fAsg (gN 1) (eLst (aCons eDk0 (aCons eDk0 aNil)))) (fSeq (fFor (iE (eN 0)) (gN 2) (fFor (iE (eTup (aCons (eC (.int 0)) (aCons (eC (.int 1)) aNil)))) (gN 3) (fSdl 1 4 (qL (lN 3)) (qL (lIx (lN 2) (qBin subD (qC (.int 1)) (qL (lN 3))))) (fIf (tTst (eInL true (eIxN 2 (eN 3)) (lN 4))) (fExpr (eAppN 4 (eIxN 2 (eN 3)))) fNext)))) (fRet (eLc [5] (iE (eN 1)) (gN 5) tYesF (eDc [6] (iK (eN 5)) (gN 6) tYesF (eN 6) (eCallF sortedD (aCons (eIxN 5 (eN 6)) aNil)))))))
def F_moves_of : List D → CR := fDef 7 [] B_moves_of
def B_moved : FS := (fSeq (fAsg (gN 3) (eGetA (eIxN 0 (eN 2)) (aCons (eIxN 1 (eBin subD (eC (.int 1)) (eN 2))) (aCons (eLst aNil) aNil)))) (fSeq (fIf (tTst (eBin eqD (eN 2) (eC (.int 0)))) (fRet (eLc [4] (iE (eN 3)) (gN 4) tYesF (eTup (aCons (eN 4) (aCons (eIxN 1 (eC (.int 1))) aNil))))) fNext) (fRet (eLc [4] (iE (eN 3)) (gN 4) tYesF (eTup (aCons (eIxN 1 (eC (.int 0))) (aCons (eN 4) aNil)))))))
def F_moved : List D → CR := fDef 5 [] B_moved
def B_steps_left : FS := (fSeq (fAsg (gN 2) (eDispN (aCons (eTup (aCons (eN 1) (aCons (eC (.int 0)) aNil))) (aCons (eC (.int 0)) (aCons (eTup (aCons (eN 1) (aCons (eC (.int 1)) aNil))) (aCons (eC (.int 0)) aNil)))))) (fSeq (fAsg (gN 3) (eLst (aCons (eTup (aCons (eN 1) (aCons (eC (.int 0)) aNil))) (aCons (eTup (aCons (eN 1) (aCons (eC (.int 1)) aNil))) aNil)))) (fSeq (fAsg (gN 4) (eC (.int 0))) (fSeq (fWh (tTru (eN 3)) (fSeq (fAug 4 addID (eC (.int 1))) (fSeq (fAsg (gN 5) (eLst aNil)) (fSeq (fFor (iE (eN 3)) (gT 2 (gsCons (gN 6) (gsCons (gN 7) gsNil))) (fFor (iE (eCall 3 F_moved (aCons (eN 0) (aCons (eN 6) (aCons (eBin subD (eC (.int 1)) (eN 7)) aNil))))) (gN 8) (fSeq (fAsg (gN 9) (eTup (aCons (eN 8) (aCons (eBin subD (eC (.int 1)) (eN 7)) aNil)))) (fIf (tTst (eInL true (eN 9) (lN 2))) (fSeq (fSetN 2 (eN 9) (eN 4)) (fExpr (eAppN 5 (eN 9)))) fNext)))) (fAsg (gN 3) (eN 5)))))) (fRetV 2)))))
def F_steps_left : List D → CR := fDef 10 [] B_steps_left
def B_walk_of : FS := (fSeq (fExpr (eCall 2 F_check_bear (aCons (eN 0) (aCons (eLst (aCons (eN 1) (aCons (eN 2) aNil))) aNil)))) (fSeq (fExpr (eCall 1 F_check_end (aCons (eN 3) aNil))) (fSeq (fAsg (gN 4) (eCall 1 F_moves_of (aCons (eN 0) aNil))) (fSeq (fAsg (gN 5) (eCall 2 F_steps_left (aCons (eN 4) (aCons (eCallF tupleD (aCons (eN 2) aNil)) aNil)))) (fSeq (fAsg (gN 6) (eCallF tupleD (aCons (eN 1) aNil))) (fSeq (fAsg (gN 7) (eN 3)) (fSeq (fIf (tTst (eInL true (eTup (aCons (eN 6) (aCons (eN 7) aNil))) (lN 5))) (fRet (eC .non)) fNext) (fSeq (fAsg (gN 8) (eLst (aCons (eN 6) aNil))) (fSeq (fWh (tTst (eBin gtD (eIxN 5 (eTup (aCons (eN 6) (aCons (eN 7) aNil)))) (eC (.int 0)))) (fSeq (fAsg (gN 9) (eIxN 5 (eTup (aCons (eN 6) (aCons (eN 7) aNil))))) (fSeq (fAsg (gN 6) (eBin idxD (eLc [10] (iE (eCall 3 F_moved (aCons (eN 4) (aCons (eN 6) (aCons (eN 7) aNil))))) (gN 10) (tTst (eBin eqD (eGetA (eN 5) (aCons (eTup (aCons (eN 10) (aCons (eBin subD (eC (.int 1)) (eN 7)) aNil))) (aCons (eN 9) aNil))) (eBin subD (eN 9) (eC (.int 1))))) (eN 10)) (eC (.int 0)))) (fSeq (fAsg (gN 7) (eBin subD (eC (.int 1)) (eN 7))) (fExpr (eAppN 8 (eN 6))))))) (fRetV 8))))))))))
def F_walk_of : List D → CR := fDef 11 [] B_walk_of
end
abbrev Cp := Int × Int
/-- a couple as data -/
def cD (c : Cp) : D := .nd .tup false [.int c.1, .int c.2]
def ci (c : Cp) : List Int := [c.1, c.2]
@[simp] theorem frz_cD {c : Cp} : frz (cD c) = cD c := (rfl)
@[simp] theorem frzs_cD : ∀ {cs : List Cp}, frzs (cs.map cD) = cs.map cD
  | [] => rfl
  | c :: cs => by rw [List.map_cons, frzs_cons, frzs_cD, frz_cD]
@[simp] theorem itupD_cD {c : Cp} : itupD (cD c) = some (ci c) := (rfl)
@[simp] theorem itupsD_cD : ∀ {cs : List Cp}, itupsD (cs.map cD) = some (cs.map ci)
  | [] => rfl
  | c :: cs => by rw [List.map_cons]; unfold itupsD; rw [itupD_cD, itupsD_cD]; rfl
@[simp] theorem tupleD_cD {c : Cp} : tupleD [cD c] = some (cD c) := (rfl)
theorem ci_inj {a b : Cp} (h : ci a = ci b) : a = b := by
  unfold ci at h
  simp at h
  exact Prod.ext h.1 h.2
theorem ci_mem {c : Cp} {cs : List Cp} : ci c ∈ cs.map ci ↔ c ∈ cs := by
  constructor
  · intro h
    obtain ⟨d, h1, h2⟩ := List.mem_map.mp h
    exact ci_inj h2 ▸ h1
  · exact fun h => List.mem_map.mpr ⟨c, h, rfl⟩
@[simp] theorem memD_set {c : Cp} {cs : List Cp} {o : Bool} : memD (cD c) (.nd (.st (cs.map ci)) o (cs.map cD)) = some (decide (c ∈ cs)) := by
  unfold memD
  dsimp only
  rw [if_pos itupsD_cD, itupD_cD, Option.map_some]
  congr 1
  exact decide_eq_decide.mpr ci_mem
@[simp] theorem itsD_lstC {o : Bool} {cs : List Cp} : itsD (.nd .lst o (cs.map cD)) = some (cs.map cD) := (rfl)
abbrev xBear : Exc := ⟨"BadRow", ["what"], [.str "bear"]⟩
abbrev xNum : Exc := ⟨"BadRow", ["what"], [.str "numbers"]⟩
theorem bear_is {cs told : List Cp} {o o' : Bool} (h : cs.length < 64) : F_check_bear [.nd .lst o (cs.map cD), .nd .lst o' (told.map cD)] = if ∀ c ∈ told, c ∈ cs then .ok .non [none, none] else .exc xBear [none, none] := by
  have h1 := lcL_map (vs := [3]) (g := gN 3) (tt := tYesF) (el := eCallF tupleD (aCons (eN 3) aNil)) (base := ⟨[some (.nd .lst false (cs.map cD)), some (.nd .lst o' (told.map cD)), none, none], none⟩) (y := fun d => d) (xs := cs.map cD) (acc := []) (fun x hx => by
    obtain ⟨c, _, rfl⟩ := List.mem_map.mp hx
    exact ⟨_, _, _, by simp; rfl, rfl, by simp; rfl, by simp⟩) (by simp [lim]; omega)
  rw [List.nil_append, List.map_id'] at h1
  have h2 : setOfD [.nd .lst false (cs.map cD)] = some (.nd (.st (cs.map ci)) true (cs.map cD)) := by
    unfold setOfD
    simp [D.seq, h]
  have h4 : ∀ (ts : List Cp) (t : D) (x : Option D), ∃ x', forL (gN 3) (fIf (tTst (eInL true (eCallF tupleD (aCons (eN 3) aNil)) (lN 2))) (fRaise "BadRow" ["what"] (aCons (eC (.str "bear")) aNil)) fNext) (ts.map cD) ⟨[some (.nd .lst false (cs.map cD)), some t, some (.nd (.st (cs.map ci)) true (cs.map cD)), x], none⟩ =
      if ∀ c ∈ ts, c ∈ cs then .nx ⟨[some (.nd .lst false (cs.map cD)), some t, some (.nd (.st (cs.map ci)) true (cs.map cD)), x'], none⟩ else .exc xBear ⟨[some (.nd .lst false (cs.map cD)), some t, some (.nd (.st (cs.map ci)) true (cs.map cD)), x'], none⟩ := by
    intro ts t
    induction ts with
    | nil => exact fun x => ⟨x, by simp⟩
    | cons c ts ih =>
      intro x
      by_cases hc : c ∈ cs
      · obtain ⟨x', hx⟩ := ih (some (cD c))
        refine ⟨x', ?_⟩
        rw [List.map_cons, forL_step (by simp; rfl) (by simp [hc]; rfl), hx]
        have : (∀ d ∈ c :: ts, d ∈ cs) ↔ ∀ d ∈ ts, d ∈ cs := by simp [hc]
        simp only [this]
      · refine ⟨some (cD c), ?_⟩
        have : ¬ ∀ d ∈ c :: ts, d ∈ cs := fun k => hc (k c List.mem_cons_self)
        rw [List.map_cons, forL_cons, if_neg this]
        simp [hc, fRaise]
  obtain ⟨x', hx⟩ := h4 told (.nd .lst false (told.map cD)) (none : Option D)
  unfold F_check_bear B_check_bear
  by_cases k : ∀ c ∈ told, c ∈ cs
  · rw [if_pos k] at hx ⊢
    simp [fDef, lN, h1, h2, hx]
  · rw [if_neg k] at hx ⊢
    simp [fDef, lN, h1, h2, hx]
theorem end_is {e : Int} : F_check_end [.int e] = if e = 0 ∨ e = 1 then .ok .non [none] else .exc xNum [none] := by
  have h : notInD (.int e) (.nd .tup false [.int 0, .int 1]) = some (.bl (!(decide (e = 0 ∨ e = 1)))) := by
    unfold notInD inD
    simp [flatD, eqF, D.seq]
    rw [Bool.eq_iff_iff]
    simp
    omega
  unfold F_check_end B_check_end
  by_cases k : e = 0 ∨ e = 1
  · rw [decide_eq_true k] at h
    simp [fDef, fRaise, lim, h, k]
  · rw [decide_eq_false k] at h
    simp [fDef, fRaise, lim, h, k]
def oth (c : Cp) (e : Int) : Int := if e = 0 then c.2 else c.1
def own (c : Cp) (e : Int) : Int := if e = 0 then c.1 else c.2
def put (e : Int) (c : Cp) (d : Int) : Cp := if e = 0 then (d, c.2) else (c.1, d)
/-- the row of deeds beside a deed: ascending, each once -/
def Row (cs : List Cp) (e o : Int) (r : List Int) : Prop := r.Pairwise (· < ·) ∧ r.length ≤ cs.length ∧ ∀ d, d ∈ r ↔ ∃ c ∈ cs, oth c e = o ∧ own c e = d
/-- one end's dict of rows, as data -/
def Tab (cs : List Cp) (e : Int) : D → Prop
  | .nd (.dk ks) false vs => ks.length = vs.length ∧ frzs vs = vs ∧ ∀ o, (kpos ks (.inl o) = none ∧ ∀ c ∈ cs, oth c e ≠ o) ∨ ∃ (j : Nat) (r : List Int), kpos ks (.inl o) = some j ∧ vs[j]? = some (.nd .lst false (r.map D.int)) ∧ Row cs e o r
  | _ => False
def Tb (cs : List Cp) (m : D) : Prop := ∃ d0 d1, m = .nd .lst false [d0, d1] ∧ Tab cs 0 d0 ∧ Tab cs 1 d1
/-- where one step of an end leads -/
def Steps (cs : List Cp) (c : Cp) (e : Int) (ts : List Cp) : Prop := (∀ c', c' ∈ ts ↔ c' ∈ cs ∧ oth c' e = oth c e) ∧ ts.Pairwise (fun a b => own a e < own b e) ∧ ts.length ≤ cs.length
theorem tab_get {cs : List Cp} {e o : Int} {d : D} (h : Tab cs e d) : ∃ ks vs, d = .nd (.dk ks) false vs ∧ frzs vs = vs ∧ ∃ r b, getA d (.int o) (.nd .lst true []) = some (.nd .lst b (r.map D.int)) ∧ Row cs e o r := by
  unfold Tab at h
  split at h
  · rename_i ks vs
    obtain ⟨h1, h0, h2⟩ := h
    refine ⟨ks, vs, rfl, h0, ?_⟩
    rcases h2 o with ⟨k1, k2⟩ | ⟨j, r, k1, k2, k3⟩
    · refine ⟨[], true, ?_, .nil, Nat.zero_le _, fun d => ?_⟩
      · simp [getA, dposD, keyD, k1]
      · constructor
        · intro h; cases h
        · rintro ⟨c, h3, h4, _⟩
          exact absurd h4 (k2 c h3)
    · refine ⟨r, false, ?_, k3⟩
      simp [getA, dposD, keyD, k1, k2]
  · exact h.elim
theorem row_steps {cs : List Cp} {e : Int} {c : Cp} {r : List Int} (he : e = 0 ∨ e = 1) (h : Row cs e (oth c e) r) : Steps cs c e (r.map (put e c)) := by
  obtain ⟨h1, h2, h3⟩ := h
  refine ⟨fun c' => ?_, ?_, by simp [h2]⟩
  · rw [List.mem_map]
    constructor
    · rintro ⟨d, k1, rfl⟩
      obtain ⟨c2, k2, k3, k4⟩ := (h3 d).mp k1
      have : put e c d = c2 := by
        rcases he with rfl | rfl <;> simp [put, oth, own] at k3 k4 ⊢ <;> exact Prod.ext (by simp [*]) (by simp [*])
      rw [this]
      exact ⟨k2, k3⟩
    · rintro ⟨k1, k2⟩
      refine ⟨own c' e, (h3 _).mpr ⟨c', k1, k2, rfl⟩, ?_⟩
      rcases he with rfl | rfl <;> simp [put, oth, own] at k2 ⊢ <;> exact Prod.ext (by simp [*]) (by simp [*])
  · rw [List.pairwise_map]
    refine h1.imp fun {a b} k => ?_
    rcases he with rfl | rfl <;> simpa [put, own] using k
theorem moved_ok {cs : List Cp} {m : D} {c : Cp} {e : Int} (h : Tb cs m) (he : e = 0 ∨ e = 1) (hl : cs.length < 64) : ∃ ts, F_moved [m, cD c, .int e] = .ok (.nd .lst true (ts.map cD)) [none, none, none] ∧ Steps cs c e ts := by
  obtain ⟨d0, d1, rfl, t0, t1⟩ := h
  have i0 : ixN 2 0 = some 0 := rfl
  have i1 : ixN 2 1 = some 1 := rfl
  rcases he with rfl | rfl
  · obtain ⟨ks, vs, rfl, g2, r, b, g3, g4⟩ := tab_get (o := oth c 0) t0
    refine ⟨_, ?_, row_steps (.inl rfl) g4⟩
    have lc := lcL_map (vs := [4]) (g := gN 4) (tt := tYesF) (el := eTup (aCons (eN 4) (aCons (eIxN 1 (eC (.int 1))) aNil))) (base := ⟨[some (.nd .lst false [.nd (.dk ks) false vs, d1]), some (cD c), some (.int 0), some (.nd .lst false (r.map D.int)), none], none⟩) (y := fun d => .nd .tup false [d, .int c.2]) (xs := r.map D.int) (acc := []) (fun x hx => by
      obtain ⟨d, _, rfl⟩ := List.mem_map.mp hx
      exact ⟨_, _, _, by simp; rfl, rfl, by simp [cD, i1, lim]; rfl, by simp [cD]⟩) (by have := g4.2.1; simp [lim]; omega)
    unfold F_moved B_moved
    simp [fDef, cD, g2, oth, i0, i1, eqD_int] at g3 lc ⊢
    simp [g3, lc, eqD_int, cD, put, i1]
  · obtain ⟨ks, vs, rfl, g2, r, b, g3, g4⟩ := tab_get (o := oth c 1) t1
    refine ⟨_, ?_, row_steps (.inr rfl) g4⟩
    have lc := lcL_map (vs := [4]) (g := gN 4) (tt := tYesF) (el := eTup (aCons (eIxN 1 (eC (.int 0))) (aCons (eN 4) aNil))) (base := ⟨[some (.nd .lst false [d0, .nd (.dk ks) false vs]), some (cD c), some (.int 1), some (.nd .lst false (r.map D.int)), none], none⟩) (y := fun d => .nd .tup false [.int c.1, d]) (xs := r.map D.int) (acc := []) (fun x hx => by
      obtain ⟨d, _, rfl⟩ := List.mem_map.mp hx
      exact ⟨_, _, _, by simp; rfl, rfl, by simp [cD, i0, lim]; rfl, by simp [cD]⟩) (by have := g4.2.1; simp [lim]; omega)
    unfold F_moved B_moved
    simp [fDef, cD, g2, oth, i0, i1, eqD_int] at g3 lc ⊢
    simp [g3, lc, eqD_int, cD, put, i1]
/-- an end's dict while it is being made -/
def TabU (cs : List Cp) (e : Int) (ks : List Key) (vs : List D) : Prop := ks.length = vs.length ∧ ks.Nodup ∧ (∀ k ∈ ks, ∃ o, k = .inl o) ∧ ks.length ≤ cs.length ∧
  ∀ o, (kpos ks (.inl o) = none ∧ ∀ c ∈ cs, oth c e ≠ o) ∨ ∃ (j : Nat) (r : List Int), kpos ks (.inl o) = some j ∧ vs[j]? = some (.nd .lst true (r.map D.int)) ∧ r.Nodup ∧ r.length ≤ cs.length ∧ ∀ d, d ∈ r ↔ ∃ c ∈ cs, oth c e = o ∧ own c e = d
theorem kpos_app {ks : List Key} {k k' : Key} : kpos (ks ++ [k]) k' = match kpos ks k' with
  | some j => some j
  | none => if k = k' then some ks.length else none := by
  induction ks with
  | nil => simp [kpos]
  | cons q ks ih =>
    rw [List.cons_append]
    unfold kpos
    by_cases h : q = k'
    · rw [if_pos h, if_pos h]
    · rw [if_neg h, if_neg h, ih]
      cases kpos ks k' with
      | some j => rfl
      | none => by_cases h2 : k = k' <;> simp [h2]
/-- a row with a deed more -/
def rowU (r : List Int) (d : Int) : List Int := if d ∈ r then r else r ++ [d]
theorem kpos_inj {ks : List Key} {k k' : Key} {j : Nat} (h : kpos ks k = some j) (h' : kpos ks k' = some j) : k = k' := by
  induction ks generalizing j with
  | nil => cases h
  | cons q ks ih =>
    unfold kpos at h h'
    split at h <;> split at h'
    · rename_i a b; exact a.symm.trans b
    · cases h; obtain ⟨_, _, h2⟩ := Option.map_eq_some_iff.mp h'; omega
    · cases h'; obtain ⟨_, _, h2⟩ := Option.map_eq_some_iff.mp h; omega
    · obtain ⟨i, h1, rfl⟩ := Option.map_eq_some_iff.mp h
      obtain ⟨i', h2, h3⟩ := Option.map_eq_some_iff.mp h'
      cases (Nat.succ.inj h3)
      exact ih h1 h2
theorem tab_step {cs : List Cp} {c : Cp} {e : Int} {ks : List Key} {vs : List D} (h : TabU cs e ks vs) : ∃ r, (sdKey ks vs (.inl (oth c e))).2.1[(sdKey ks vs (.inl (oth c e))).2.2]? = some (.nd .lst true (r.map D.int)) ∧ r.length ≤ cs.length ∧
    TabU (cs ++ [c]) e (sdKey ks vs (.inl (oth c e))).1 ((sdKey ks vs (.inl (oth c e))).2.1.set (sdKey ks vs (.inl (oth c e))).2.2 (.nd .lst true ((rowU r (own c e)).map D.int))) := by
  obtain ⟨h1, h2, h3, h4, h5⟩ := h
  rcases h5 (oth c e) with ⟨k1, k2⟩ | ⟨j, r, k1, k2, k3, k4, k5⟩
  · refine ⟨[], ?_, Nat.zero_le _, ?_⟩
    · simp [sdKey, k1]
    · simp only [sdKey, k1]
      refine ⟨by simp [h1], ?_, ?_, by simp; omega, fun o => ?_⟩
      · rw [List.nodup_append]
        refine ⟨h2, List.nodup_cons.mpr ⟨by simp, List.nodup_nil⟩, fun a ha b hb => ?_⟩
        rw [List.mem_singleton.mp hb]
        rintro rfl
        have := kpos_mem.mpr ha
        rw [k1] at this; cases this
      · intro k hk
        rcases List.mem_append.mp hk with hk | hk
        · exact h3 k hk
        · exact ⟨_, List.mem_singleton.mp hk⟩
      · rw [kpos_app]
        rcases h5 o with ⟨m1, m2⟩ | ⟨j, r, m1, m2, m3, m4, m5⟩
        · rw [m1]
          by_cases ho : oth c e = o
          · subst ho
            refine .inr ⟨ks.length, [own c e], by simp, ?_, by simp, by simp, fun d => ?_⟩
            · rw [h1]; simp [rowU]
            · constructor
              · intro hd
                rw [List.mem_singleton.mp hd]
                exact ⟨c, by simp, rfl, rfl⟩
              · rintro ⟨c', q1, q2, rfl⟩
                rcases List.mem_append.mp q1 with q1 | q1
                · exact absurd q2 (k2 c' q1)
                · rw [List.mem_singleton.mp q1]; simp
          · refine .inl ⟨by simp [ho], fun c' hc' => ?_⟩
            rcases List.mem_append.mp hc' with q1 | q1
            · exact m2 c' q1
            · rw [List.mem_singleton.mp q1]; exact ho
        · rw [m1]
          have hj : j < vs.length := h1 ▸ kpos_lt m1
          have ho : oth c e ≠ o := by rintro rfl; rw [k1] at m1; cases m1
          refine .inr ⟨j, r, rfl, ?_, m3, by simp; omega, fun d => ?_⟩
          · rw [List.getElem?_set_ne (by omega), List.getElem?_append_left hj, m2]
          · rw [m5 d]
            constructor
            · rintro ⟨c', q1, q2⟩; exact ⟨c', List.mem_append_left _ q1, q2⟩
            · rintro ⟨c', q1, q2, q3⟩
              rcases List.mem_append.mp q1 with q1 | q1
              · exact ⟨c', q1, q2, q3⟩
              · rw [List.mem_singleton.mp q1] at q2; exact absurd q2 ho
  · have hj : j < vs.length := h1 ▸ kpos_lt k1
    refine ⟨r, by simp [sdKey, k1, k2], k4, ?_⟩
    simp only [sdKey, k1]
    refine ⟨by simp [h1], h2, h3, by simp; omega, fun o => ?_⟩
    rcases h5 o with ⟨m1, m2⟩ | ⟨j', r', m1, m2, m3, m4, m5⟩
    · have ho : oth c e ≠ o := by rintro rfl; rw [k1] at m1; cases m1
      refine .inl ⟨m1, fun c' hc' => ?_⟩
      rcases List.mem_append.mp hc' with q1 | q1
      · exact m2 c' q1
      · rw [List.mem_singleton.mp q1]; exact ho
    · by_cases ho : oth c e = o
      · subst ho
        rw [k1] at m1; cases m1
        rw [k2] at m2
        refine .inr ⟨j, rowU r (own c e), k1, by simp [hj], ?_, ?_, fun d => ?_⟩
        · unfold rowU
          split
          · exact k3
          · rename_i q
            rw [List.nodup_append]
            exact ⟨k3, List.nodup_cons.mpr ⟨by simp, List.nodup_nil⟩, fun a ha b hb => by rw [List.mem_singleton.mp hb]; rintro rfl; exact q ha⟩
        · unfold rowU
          split <;> simp <;> omega
        · have : d ∈ rowU r (own c e) ↔ d ∈ r ∨ d = own c e := by
            unfold rowU
            split
            · constructor
              · exact .inl
              · rintro (q | rfl)
                · exact q
                · assumption
            · simp
          rw [this, k5 d]
          constructor
          · rintro (⟨c', q1, q2⟩ | rfl)
            · exact ⟨c', List.mem_append_left _ q1, q2⟩
            · exact ⟨c, by simp, rfl, rfl⟩
          · rintro ⟨c', q1, q2, q3⟩
            rcases List.mem_append.mp q1 with q1 | q1
            · exact .inl ⟨c', q1, q2, q3⟩
            · rw [List.mem_singleton.mp q1] at q3; exact .inr q3.symm
      · refine .inr ⟨j', r', m1, ?_, m3, by simp; omega, fun d => ?_⟩
        · have : j ≠ j' := by rintro rfl; exact ho (Sum.inl.inj (kpos_inj k1 m1))
          rw [List.getElem?_set_ne this, m2]
        · rw [m5 d]
          constructor
          · rintro ⟨c', q1, q2⟩; exact ⟨c', List.mem_append_left _ q1, q2⟩
          · rintro ⟨c', q1, q2, q3⟩
            rcases List.mem_append.mp q1 with q1 | q1
            · exact ⟨c', q1, q2, q3⟩
            · rw [List.mem_singleton.mp q1] at q2; exact absurd q2 ho
theorem pyds_ints : ∀ {r : List Int}, pyds (r.map D.int) = r.map PyData.int
  | [] => rfl
  | d :: r => by rw [List.map_cons, List.map_cons, ← pyds_ints]; rfl
theorem eqOks_ints : ∀ {r : List Int}, eqOks (r.map D.int) = true
  | [] => rfl
  | d :: r => by rw [List.map_cons]; unfold eqOks; rw [eqOks_ints]; rfl
theorem depth_ints : ∀ {r : List Int}, PyData.depthAll (r.map PyData.int) ≤ 1
  | [] => by simp [PyData.depthAll]
  | d :: r => by have := depth_ints (r := r); simp [PyData.depthAll, PyData.depth]; omega
theorem lay_ints : ∀ {r : List Int}, PyData.canLayAll0 (r.map PyData.int) = true
  | [] => by simp [PyData.canLayAll0]
  | d :: r => by have := lay_ints (r := r); simp [PyData.canLayAll0, PyData.canLay0, this]
@[simp] theorem memD_ints {d : Int} {o : Bool} {r : List Int} : memD (.int d) (.nd .lst o (r.map D.int)) = some (decide (d ∈ r)) := by
  have h := depth_ints (r := r)
  unfold memD
  dsimp only
  rw [pyds_ints, eqOks_ints]
  simp [eqOk, pyd, SeqAt.shaped, PyData.canLay0, PyData.depth, lay_ints]
  refine ⟨by omega, ?_⟩
  rw [Bool.eq_iff_iff]
  simp [PyData.eqv]
abbrev fM (T : D) (ks0 : List Key) (vs0 : List D) (ks1 : List Key) (vs1 : List D) (x2 x3 x4 : Option D) : En := ⟨[some T, some (.nd .lst true [.nd (.dk ks0) true vs0, .nd (.dk ks1) true vs1]), x2, x3, x4, none, none], none⟩
abbrev bM : FS := fSdl 1 4 (qL (lN 3)) (qL (lIx (lN 2) (qBin subD (qC (.int 1)) (qL (lN 3))))) (fIf (tTst (eInL true (eIxN 2 (eN 3)) (lN 4))) (fExpr (eAppN 4 (eIxN 2 (eN 3)))) fNext)
theorem moves_one {T : D} {ks0 ks1 : List Key} {vs0 vs1 : List D} {x4 : Option D} {c : Cp} {cs cs' : List Cp} (h0 : TabU cs 0 ks0 vs0) (h1 : TabU cs' 1 ks1 vs1) (l0 : cs.length < 64) (l1 : cs'.length < 64) :
    (∃ ks vs, bM (fM T ks0 vs0 ks1 vs1 (some (cD c)) (some (.int 0)) x4) = .nx (fM T ks vs ks1 vs1 (some (cD c)) (some (.int 0)) none) ∧ TabU (cs ++ [c]) 0 ks vs) ∧
    (∃ ks vs, bM (fM T ks0 vs0 ks1 vs1 (some (cD c)) (some (.int 1)) x4) = .nx (fM T ks0 vs0 ks vs (some (cD c)) (some (.int 1)) none) ∧ TabU (cs' ++ [c]) 1 ks vs) := by
  have i0 : ixN 2 0 = some 0 := rfl
  have i1 : ixN 2 1 = some 1 := rfl
  constructor
  · obtain ⟨r, k1, k2, k3⟩ := tab_step (c := c) h0
    refine ⟨_, _, ?_, k3⟩
    unfold bM
    rw [fSdl_at (n := .int 0) (y := .int c.2) (d := .nd .lst true (r.map D.int)) (ds := [.nd (.dk ks0) true vs0, .nd (.dk ks1) true vs1]) (j1 := 0) (ks := ks0) (xs := vs0) (key := .inl (oth c 0)) rfl (by simp [lN]) (by simp [lN, cD, i1]) (by simp [sdRow, i0, keyD, oth]) (by decide) (by simp) (by have := h0.1; have := h0.2.2.2.1; simp [lim]; omega) k1]
    have hr : r.length < lim := by simp [lim]; omega
    by_cases hm : c.1 ∈ r
    · simp [En.lend, lN, cD, i0, i1, hm, sdBack, rowU, own]
    · simp [En.lend, lN, cD, i0, i1, hm, sdBack, rowU, own, hr]
  · obtain ⟨r, k1, k2, k3⟩ := tab_step (c := c) h1
    refine ⟨_, _, ?_, k3⟩
    unfold bM
    rw [fSdl_at (n := .int 1) (y := .int c.1) (d := .nd .lst true (r.map D.int)) (ds := [.nd (.dk ks0) true vs0, .nd (.dk ks1) true vs1]) (j1 := 1) (ks := ks1) (xs := vs1) (key := .inl (oth c 1)) rfl (by simp [lN]) (by simp [lN, cD, i0]) (by simp [sdRow, i1, keyD, oth]) (by decide) (by simp) (by have := h1.1; have := h1.2.2.2.1; simp [lim]; omega) k1]
    have hr : r.length < lim := by simp [lim]; omega
    by_cases hm : c.2 ∈ r
    · simp [En.lend, lN, cD, i0, i1, hm, sdBack, rowU, own]
    · simp [En.lend, lN, cD, i0, i1, hm, sdBack, rowU, own, hr]
theorem kpos_at {ks : List Key} {k : Key} {j : Nat} (h : kpos ks k = some j) : ks[j]? = some k := by
  induction ks generalizing j with
  | nil => cases h
  | cons q ks ih =>
    unfold kpos at h
    split at h
    · rename_i a; cases h; rw [a]; rfl
    · obtain ⟨i, h1, rfl⟩ := Option.map_eq_some_iff.mp h
      rw [List.getElem?_cons_succ, ih h1]
theorem dict_rows {cs : List Cp} {e : Int} {ks : List Key} {vs : List D} {a0 a1 a2 a3 a4 : Option D} (h : TabU cs e ks vs) (hl : cs.length < 64) : ∃ d, eDc [6] (iK (eN 5)) (gN 6) tYesF (eN 6) (eCallF sortedD (aCons (eIxN 5 (eN 6)) aNil)) ⟨[a0, a1, a2, a3, a4, some (.nd (.dk ks) false (frzs vs)), none], none⟩ = .ok d ⟨[a0, a1, a2, a3, a4, some (.nd (.dk ks) false (frzs vs)), none], none⟩ ∧ Tab cs e (frz d) := by
  obtain ⟨h1, h2, h3, h4, h5⟩ := h
  have : ∀ o, ∃ r : List Int, (kpos ks (.inl o) = none ∧ ∀ c ∈ cs, oth c e ≠ o) ∨ ∃ (j : Nat), kpos ks (.inl o) = some j ∧ vs[j]? = some (.nd .lst true (r.map D.int)) ∧ r.Nodup ∧ r.length ≤ cs.length ∧ ∀ d, d ∈ r ↔ ∃ c ∈ cs, oth c e = o ∧ own c e = d := fun o => by
    rcases h5 o with h | ⟨j, r, h⟩
    · exact ⟨[], .inl h⟩
    · exact ⟨r, .inr ⟨j, h⟩⟩
  obtain ⟨R, hR⟩ := Classical.skolem.mp this
  let y : D → D := fun d => match d with
    | .int o => .nd .lst true ((sortI (R o)).map D.int)
    | _ => .non
  let kf : D → Key := fun d => (keyD d).getD (.inl 0)
  have kk : (ks.map keyAsD).map kf = ks := by
    rw [List.map_map]
    conv => rhs; rw [← List.map_id ks]
    refine List.map_congr_left fun k hk => ?_
    obtain ⟨o, rfl⟩ := h3 k hk
    rfl
  have dc := dcL_map (vs := [6]) (g := gN 6) (tt := tYesF) (ke := eN 6) (ve := eCallF sortedD (aCons (eIxN 5 (eN 6)) aNil)) (base := ⟨[a0, a1, a2, a3, a4, some (.nd (.dk ks) false (frzs vs)), none], none⟩) (kf := kf) (y := y) (xs := ks.map keyAsD) (acc := []) (fun x hx => by
    obtain ⟨k, hk, rfl⟩ := List.mem_map.mp hx
    obtain ⟨o, rfl⟩ := h3 k hk
    rcases hR o with ⟨q1, _⟩ | ⟨j, q1, q2, q3, q4, q5⟩
    · have := kpos_mem.mpr hk
      rw [q1] at this; cases this
    · have f1 : (frzs vs)[j]? = some (.nd .lst false ((R o).map D.int)) := by rw [frzs_at, q2]; simp
      have f2 : cpos (.nd (.dk ks) false (frzs vs)) (.int o) = some j := by simp [cpos, keyD, q1]
      have f3 : sortedD [.nd .lst false ((R o).map D.int)] = some (y (.int o)) := by simp [sortedD, D.seq, y]
      exact ⟨⟨[a0, a1, a2, a3, a4, some (.nd (.dk ks) false (frzs vs)), some (.int o)], none⟩, _, _, ⟨[a0, a1, a2, a3, a4, some (.nd (.dk ks) false (frzs vs)), some (.int o)], none⟩, .int o, by simp [keyAsD], rfl, by simp; rfl, rfl, by simp [f1, f2, f3, keyAsD], by simp⟩) (by rw [List.map_nil, List.nil_append, kk]; exact h2) (by simp [lim]; omega)
  refine ⟨.nd (.dk ks) true (ks.map fun k => y (keyAsD k)), ?_, ?_⟩
  · have f4 : keysOfD (.nd (.dk ks) false (frzs vs)) = some (ks.map keyAsD) := rfl
    simp [f4, dc]
    rw [List.map_map] at kk
    exact kk
  · rw [frz_nd]
    refine ⟨by simp, by simp, fun o => ?_⟩
    rcases hR o with q | ⟨j, q1, q2, q3, q4, q5⟩
    · exact .inl q
    · refine .inr ⟨j, sortI (R o), q1, ?_, ?_, ?_, ?_⟩
      · rw [frzs_at, List.getElem?_map, kpos_at q1]
        simp [keyAsD, y]
      · have a1 := sortI_le (R o)
        have a2 : (sortI (R o)).Nodup := (sortI_perm (R o)).nodup_iff.mpr q3
        exact (a1.and a2).imp fun {a b} h => by omega
      · rw [(sortI_perm (R o)).length_eq]; exact q4
      · intro d
        rw [(sortI_perm (R o)).mem_iff]
        exact q5 d
theorem lcL_step {vs : List Nat} {g : FG} {tt : FT} {el : FE} {e e1 e2 e3 : En} {x d : D} {xs acc : List D} (h1 : g x e = some e1) (h2 : tt e1 = .ok true e2) (h3 : el e2 = .ok d e3) (hl : acc.length < lim) : lcL vs g tt el (x :: xs) acc e = lcL vs g tt el xs (acc ++ [d]) (delL e3 vs) := by
  conv => lhs; unfold lcL
  rw [h1]; dsimp only
  rw [h2, Rs.nox_ok, Rs.bind_ok, if_pos rfl, h3, Rs.nox_ok, Rs.bind_ok, if_pos hl]
theorem moves_ok {cs : List Cp} {o : Bool} (hl : cs.length < 64) : ∃ m, F_moves_of [.nd .lst o (cs.map cD)] = .ok m [none] ∧ Tb cs (frz m) := by
  have loop : ∀ (rest done : List Cp) (T : D) (ks0 ks1 : List Key) (vs0 vs1 : List D) (x2 x3 x4 : Option D), done.length + rest.length < 64 → TabU done 0 ks0 vs0 → TabU done 1 ks1 vs1 →
      ∃ ks0' ks1' vs0' vs1' x2' x3' x4', forL (gN 2) (fFor (iE (eTup (aCons (eC (.int 0)) (aCons (eC (.int 1)) aNil)))) (gN 3) bM) (rest.map cD) (fM T ks0 vs0 ks1 vs1 x2 x3 x4) = .nx (fM T ks0' vs0' ks1' vs1' x2' x3' x4') ∧ TabU (done ++ rest) 0 ks0' vs0' ∧ TabU (done ++ rest) 1 ks1' vs1' := by
    intro rest
    induction rest with
    | nil => intro done T ks0 ks1 vs0 vs1 x2 x3 x4 _ t0 t1; exact ⟨_, _, _, _, _, _, _, rfl, by simpa using t0, by simpa using t1⟩
    | cons c rest ih =>
      intro done T ks0 ks1 vs0 vs1 x2 x3 x4 hd t0 t1
      rw [List.length_cons] at hd
      obtain ⟨ka, va, e1, t0'⟩ := (moves_one (T := T) (x4 := x4) (c := c) t0 t1 (by omega) (by omega)).1
      obtain ⟨kb, vb, e2, t1'⟩ := (moves_one (T := T) (x4 := none) (c := c) t0' t1 (by simp; omega) (by omega)).2
      obtain ⟨ks0', ks1', vs0', vs1', x2', x3', x4', e3, q0, q1⟩ := ih (done ++ [c]) T ka kb va vb (some (cD c)) (some (.int 1)) none (by simp; omega) t0' t1'
      refine ⟨ks0', ks1', vs0', vs1', x2', x3', x4', ?_, by simpa using q0, by simpa using q1⟩
      rw [List.map_cons, forL_step (e1 := fM T ks0 vs0 ks1 vs1 (some (cD c)) x3 x4) (e2 := fM T ka va kb vb (some (cD c)) (some (.int 1)) none) (by simp) ?_ , e3]
      simp [lim]
      rw [forL_step (e1 := fM T ks0 vs0 ks1 vs1 (some (cD c)) (some (.int 0)) x4) (by simp) e1, forL_step (e1 := fM T ka va ks1 vs1 (some (cD c)) (some (.int 1)) none) (by simp) e2]
      rfl
  have start : ∀ e, TabU [] e [] [] := fun e => ⟨rfl, List.nodup_nil, fun k hk => (by cases hk), Nat.zero_le _, fun o => .inl ⟨rfl, fun c hc => (by cases hc)⟩⟩
  obtain ⟨ks0, ks1, vs0, vs1, x2, x3, x4, e1, t0, t1⟩ := loop cs [] (.nd .lst false (cs.map cD)) [] [] [] [] none none none (by simpa using hl) (start 0) (start 1)
  rw [List.nil_append] at t0 t1
  obtain ⟨d0, e2, q0⟩ := dict_rows (a0 := some (.nd .lst false (cs.map cD))) (a1 := some (.nd .lst false [.nd (.dk ks0) false (frzs vs0), .nd (.dk ks1) false (frzs vs1)])) (a2 := x2) (a3 := x3) (a4 := x4) t0 hl
  obtain ⟨d1, e3, q1⟩ := dict_rows (a0 := some (.nd .lst false (cs.map cD))) (a1 := some (.nd .lst false [.nd (.dk ks0) false (frzs vs0), .nd (.dk ks1) false (frzs vs1)])) (a2 := x2) (a3 := x3) (a4 := x4) t1 hl
  refine ⟨.nd .lst true [d0, d1], ?_, ⟨frz d0, frz d1, by simp, q0, q1⟩⟩
  unfold F_moves_of B_moves_of
  simp [fDef, lim, e1]
  rw [lcL_step (tt := tYesF) (by simp) rfl e2 (by simp [lim]), lcL_step (tt := tYesF) (by simp) rfl e3 (by simp [lim])]
  simp [lcL]
abbrev Sp := Cp × Int
/-- a couple and the end that moves, as data and as a key -/
def stD (s : Sp) : D := .nd .tup false [cD s.1, .int s.2]
def nkS (s : Sp) : NestedKey := .tup [.tup [.num s.1.1, .num s.1.2], .num s.2]
@[simp] theorem frz_stD {s : Sp} : frz (stD s) = stD s := (rfl)
@[simp] theorem tnk_stD {s : Sp} : tnkD (stD s) = some (nkS s) := by
  obtain ⟨⟨a, b⟩, c⟩ := s
  unfold tnkD stD
  dsimp only
  simp [nkD, nksD, cD, nkS, NestedKey.fits, NestedKey.depth, NestedKey.depthAll]
theorem nkS_inj {s t : Sp} (h : nkS s = nkS t) : s = t := by
  obtain ⟨⟨a, b⟩, c⟩ := s
  obtain ⟨⟨a', b'⟩, c'⟩ := t
  unfold nkS at h
  simp at h
  simp [h]
theorem kpos_map {κ κ' : Type} [DecidableEq κ] [DecidableEq κ'] {f : κ → κ'} (inj : ∀ a b, f a = f b → a = b) {x : κ} : ∀ {xs : List κ}, kpos (xs.map f) (f x) = kpos xs x
  | [] => rfl
  | y :: xs => by
    rw [List.map_cons, kpos_cons, kpos_cons, kpos_map inj]
    by_cases h : y = x
    · rw [if_pos h, if_pos (congrArg f h)]
    · rw [if_neg h, if_neg fun k => h (inj _ _ k)]
abbrev Tl := List (Sp × Int)
def flatT (L : Tl) : List D := L.flatMap fun p => [stD p.1, .int p.2]
def dictT (o : Bool) (L : Tl) : D := .nd (.dn (L.map fun p => nkS p.1)) o (flatT L)
def findT (L : Tl) (s : Sp) : Option Int := (L.find? fun p => p.1 = s).map (·.2)
theorem flatT_cons {p : Sp × Int} {L : Tl} : flatT (p :: L) = stD p.1 :: .int p.2 :: flatT L := rfl
theorem flatT_len : ∀ {L : Tl}, (flatT L).length = 2 * L.length
  | [] => rfl
  | p :: L => by rw [flatT_cons, List.length_cons, List.length_cons, List.length_cons, flatT_len]; omega
@[simp] theorem keysOkT : ∀ {L : Tl}, keysOk (L.map fun p => nkS p.1) (flatT L) = true
  | [] => rfl
  | p :: L => by rw [List.map_cons, flatT_cons]; unfold keysOk; rw [keysOkT, tnk_stD]; simp
@[simp] theorem frzs_flatT : ∀ {L : Tl}, frzs (flatT L) = flatT L
  | [] => rfl
  | p :: L => by rw [flatT_cons, frzs_cons, frzs_cons, frzs_flatT]; rfl
@[simp] theorem frz_dictT {o : Bool} {L : Tl} : frz (dictT o L) = dictT false L := by unfold dictT; rw [frz_nd, frzs_flatT]
theorem kposT {L : Tl} {s : Sp} : match kpos (L.map fun p => nkS p.1) (nkS s) with
    | none => findT L s = none
    | some j => ∃ v, findT L s = some v ∧ (flatT L)[2 * j + 1]? = some (.int v) := by
  have : (L.map fun p => nkS p.1) = (L.map (·.1)).map nkS := by rw [List.map_map]; rfl
  rw [this, kpos_map fun _ _ => nkS_inj]
  clear this
  induction L with
  | nil => rfl
  | cons p L ih =>
    rw [List.map_cons, kpos_cons]
    by_cases h : p.1 = s
    · rw [if_pos h]
      exact ⟨p.2, by simp [findT, h], by rw [flatT_cons]; rfl⟩
    · rw [if_neg h]
      have hf : findT (p :: L) s = findT L s := by simp [findT, h]
      cases hk : kpos (L.map (·.1)) s with
      | none => rw [hk] at ih; rw [hf]; exact ih
      | some j =>
        rw [hk] at ih
        obtain ⟨v, h1, h2⟩ := ih
        refine ⟨v, hf.trans h1, ?_⟩
        rw [flatT_cons, show 2 * (j + 1) + 1 = (2 * j + 1) + 2 from by omega]
        exact h2
@[simp] theorem memD_T {o : Bool} {L : Tl} {s : Sp} : memD (stD s) (dictT o L) = some (findT L s).isSome := by
  have h := kposT (L := L) (s := s)
  unfold memD dictT
  dsimp only
  rw [if_pos keysOkT, tnk_stD, Option.map_some]
  cases hk : kpos (L.map fun p => nkS p.1) (nkS s) with
  | none => rw [hk] at h; simp at h; simp [h]
  | some j => rw [hk] at h; obtain ⟨v, h1, _⟩ := h; simp [h1]
@[simp] theorem getA_T {o : Bool} {L : Tl} {s : Sp} {z : D} : getA (dictT o L) (stD s) z = some (match findT L s with | some v => .int v | none => z) := by
  have h := kposT (L := L) (s := s)
  unfold getA dictT
  dsimp only
  unfold dposD
  dsimp only
  rw [if_pos keysOkT, tnk_stD, Option.map_some, Option.bind_some]
  cases hk : kpos (L.map fun p => nkS p.1) (nkS s) with
  | none => rw [hk] at h; simp at h; simp [h]
  | some j => rw [hk] at h; obtain ⟨v, h1, h2⟩ := h; simp [h1, h2]
theorem refD_T {L : Tl} {s : Sp} {v : Int} (h : findT L s = some v) : refD (dictT false L) (stD s) = some (.int v, dictT false L) := by
  have h := kposT (L := L) (s := s)
  unfold dictT
  rw [refD_nd]
  unfold cpos
  dsimp only
  rw [if_pos keysOkT, tnk_stD, Option.bind_some]
  cases hk : kpos (L.map fun p => nkS p.1) (nkS s) with
  | none => rw [hk] at h; simp at h; simp_all
  | some j => rw [hk] at h; obtain ⟨w, h1, h2⟩ := h; simp_all
theorem setD_T {L : Tl} {s : Sp} {v : Int} (h : findT L s = none) (hl : 2 * L.length < lim) : setD (.dn (L.map fun p => nkS p.1)) (flatT L) (stD s) (.int v) = some (dictT true (L ++ [(s, v)])) := by
  have h' := kposT (L := L) (s := s)
  unfold setD
  dsimp only
  rw [tnk_stD, Option.bind_some, if_pos ⟨keysOkT, by rw [flatT_len]; exact hl⟩]
  cases hk : kpos (L.map fun p => nkS p.1) (nkS s) with
  | none => simp [dictT, flatT]
  | some j => rw [hk] at h'; obtain ⟨w, h1, h2⟩ := h'; rw [h] at h1; cases h1
/-- the goal is within so many steps, from a couple where an end moves -/
def Rch (cs : List Cp) (g : Cp) : Nat → Cp → Int → Prop
  | 0, c, _ => c = g
  | n + 1, c, e => Rch cs g n c e ∨ c ∈ cs ∧ ∃ c' ∈ cs, oth c' e = oth c e ∧ Rch cs g n c' (1 - e)
theorem rch_mono {cs : List Cp} {g c : Cp} {e : Int} {n : Nat} : ∀ {k : Nat}, n ≤ k → Rch cs g n c e → Rch cs g k c e
  | 0, h, r => by obtain rfl : n = 0 := by omega
                  exact r
  | k + 1, h, r => by
    by_cases q : n = k + 1
    · exact q ▸ r
    · exact .inl (rch_mono (by omega) r)
def Near (cs : List Cp) (g : Cp) (v : Int) (s : Sp) : Prop := 0 ≤ v ∧ Rch cs g v.toNat s.1 s.2 ∧ ∀ k < v.toNat, ¬ Rch cs g k s.1 s.2
theorem near_uniq {cs : List Cp} {g : Cp} {v w : Int} {s : Sp} (h : Near cs g v s) (h' : Near cs g w s) : v = w := by
  obtain ⟨a1, a2, a3⟩ := h
  obtain ⟨b1, b2, b3⟩ := h'
  rcases Int.lt_trichotomy v w with q | q | q
  · exact absurd a2 (b3 v.toNat (by omega))
  · exact q
  · exact absurd b2 (a3 w.toNat (by omega))
theorem rch_near {cs : List Cp} {g : Cp} {s : Sp} : ∀ {n : Nat}, Rch cs g n s.1 s.2 → ∃ v : Int, v ≤ n ∧ Near cs g v s
  | 0, h => ⟨0, by omega, by omega, h, fun k hk => by simp at hk⟩
  | n + 1, h => by
    by_cases q : Rch cs g n s.1 s.2
    · obtain ⟨v, h1, h2⟩ := rch_near q
      exact ⟨v, by omega, h2⟩
    · exact ⟨(n : Int) + 1, by omega, by omega, by rw [show ((n : Int) + 1).toNat = n + 1 from by omega]; exact h, fun k hk r => q (rch_mono (by omega) r)⟩
theorem findT_app {L : Tl} {s t : Sp} {v : Int} : findT (L ++ [(s, v)]) t = match findT L t with
  | some w => some w
  | none => if s = t then some v else none := by
  unfold findT
  rw [List.find?_append]
  cases h : L.find? fun p => decide (p.1 = t) with
  | some p => rfl
  | none =>
    by_cases q : s = t <;> simp [q]
/-- what the search knows once all within n steps is told -/
structure Lay (cs : List Cp) (g : Cp) (n : Nat) (L : Tl) (E : List Sp) : Prop where
  nd : (L.map (·.1)).Nodup
  sub : ∀ p ∈ L, p.1.1 ∈ cs ∧ (p.1.2 = 0 ∨ p.1.2 = 1)
  tell : ∀ s v, findT L s = some v → Near cs g v s ∧ v ≤ n
  all : ∀ s : Sp, (s.2 = 0 ∨ s.2 = 1) → Rch cs g n s.1 s.2 → ∃ v, findT L s = some v
  edge : ∀ s : Sp, s ∈ E ↔ findT L s = some (n : Int)
/-- within one round: what is new -/
structure Rnd (cs : List Cp) (g : Cp) (n : Nat) (L0 L : Tl) (N : List Sp) (seen : List Sp) : Prop where
  nd : (L.map (·.1)).Nodup
  sub : ∀ p ∈ L, p.1.1 ∈ cs ∧ (p.1.2 = 0 ∨ p.1.2 = 1)
  old : ∀ s v, findT L0 s = some v → findT L s = some v
  new : ∀ s v, findT L s = some v → findT L0 s = some v ∨ (findT L0 s = none ∧ v = (n : Int) + 1 ∧ s ∈ N ∧ Rch cs g (n + 1) s.1 s.2)
  newN : ∀ s ∈ N, findT L0 s = none ∧ findT L s = some ((n : Int) + 1)
  seen : ∀ s ∈ seen, ∃ v, findT L s = some v
theorem findT_mem {L : Tl} {s : Sp} {v : Int} (h : findT L s = some v) : (s, v) ∈ L := by
  unfold findT at h
  obtain ⟨p, h1, h2⟩ := Option.map_eq_some_iff.mp h
  have h3 := List.find?_some h1
  have h4 := List.mem_of_find?_eq_some h1
  simp at h3
  rw [← h3, ← h2]
  exact h4
theorem findT_none {L : Tl} {s : Sp} : findT L s = none ↔ s ∉ L.map (·.1) := by
  unfold findT
  rw [Option.map_eq_none_iff, List.find?_eq_none]
  constructor
  · intro h k
    obtain ⟨p, h1, h2⟩ := List.mem_map.mp k
    exact h p h1 (by simp [h2])
  · intro h p hp k
    exact h (List.mem_map.mpr ⟨p, hp, by simpa using k⟩)
/-- a new state is put in -/
theorem Rnd.put {cs : List Cp} {g : Cp} {n : Nat} {L0 L : Tl} {N seen : List Sp} {s : Sp} (h : Rnd cs g n L0 L N seen) (hs : s.1 ∈ cs) (he : s.2 = 0 ∨ s.2 = 1) (hr : Rch cs g (n + 1) s.1 s.2) (hf : findT L s = none) : Rnd cs g n L0 (L ++ [(s, (n : Int) + 1)]) (N ++ [s]) (seen ++ [s]) where
  nd := by
    rw [List.map_append, List.nodup_append]
    exact ⟨h.nd, by simp, fun a ha b hb => by
      have hb' : b = s := by simpa using hb
      rw [hb']; rintro rfl; exact findT_none.mp hf ha⟩
  sub := fun p hp => by
    rcases List.mem_append.mp hp with q | q
    · exact h.sub p q
    · rw [List.mem_singleton.mp q]; exact ⟨hs, he⟩
  old := fun t v ht => by rw [findT_app, h.old t v ht]
  new := fun t v ht => by
    rw [findT_app] at ht
    cases q : findT L t with
    | some w =>
      rw [q] at ht
      cases ht
      rcases h.new t _ q with h1 | ⟨h1, h2, h3, h4⟩
      · exact .inl h1
      · exact .inr ⟨h1, h2, List.mem_append_left _ h3, h4⟩
    | none =>
      rw [q] at ht
      by_cases st : s = t
      · subst st
        simp at ht
        refine .inr ⟨?_, ht.symm, by simp, hr⟩
        cases q2 : findT L0 s with
        | none => rfl
        | some w => rw [h.old s w q2] at hf; cases hf
      · simp [st] at ht
  newN := fun t ht => by
    rcases List.mem_append.mp ht with q | q
    · obtain ⟨h1, h2⟩ := h.newN t q
      exact ⟨h1, by rw [findT_app, h2]⟩
    · rw [List.mem_singleton.mp q]
      refine ⟨?_, by rw [findT_app, hf]; simp⟩
      cases q2 : findT L0 s with
      | none => rfl
      | some w => rw [h.old s w q2] at hf; cases hf
  seen := fun t ht => by
    rcases List.mem_append.mp ht with q | q
    · obtain ⟨v, hv⟩ := h.seen t q
      exact ⟨v, by rw [findT_app, hv]⟩
    · rw [List.mem_singleton.mp q]
      exact ⟨(n : Int) + 1, by rw [findT_app, hf]; simp⟩
theorem Rnd.had {cs : List Cp} {g : Cp} {n : Nat} {L0 L : Tl} {N seen : List Sp} {s : Sp} {v : Int} (h : Rnd cs g n L0 L N seen) (hf : findT L s = some v) : Rnd cs g n L0 L N (seen ++ [s]) where
  nd := h.nd
  sub := h.sub
  old := h.old
  new := h.new
  newN := h.newN
  seen := fun t ht => by
    rcases List.mem_append.mp ht with q | q
    · exact h.seen t q
    · rw [List.mem_singleton.mp q]; exact ⟨v, hf⟩
/-- a round is done: the next layer -/
theorem Rnd.done {cs : List Cp} {g : Cp} {n : Nat} {L0 L : Tl} {E N seen : List Sp} (h0 : Lay cs g n L0 E) (h : Rnd cs g n L0 L N seen) (hseen : ∀ s ∈ E, ∀ c' ∈ cs, oth c' (1 - s.2) = oth s.1 (1 - s.2) → (c', 1 - s.2) ∈ seen) : Lay cs g (n + 1) L N where
  nd := h.nd
  sub := h.sub
  tell := fun s v hv => by
    rcases h.new s v hv with h1 | ⟨h1, rfl, _, h4⟩
    · have := h0.tell s v h1; exact ⟨this.1, by omega⟩
    · refine ⟨⟨by omega, by rw [show ((n : Int) + 1).toNat = n + 1 from by omega]; exact h4, fun k hk r => ?_⟩, by omega⟩
      have e01 := (h.sub _ (findT_mem hv)).2
      obtain ⟨w, hw⟩ := h0.all s e01 (rch_mono (show k ≤ n by omega) r)
      rw [h1] at hw; cases hw
  all := fun s he hr => by
    rcases hr with hr | ⟨hc, c', hc', ho, hr⟩
    · obtain ⟨v, hv⟩ := h0.all s he hr
      exact ⟨v, h.old s v hv⟩
    · have e1 : 1 - s.2 = 0 ∨ 1 - s.2 = 1 := by omega
      obtain ⟨v, hv⟩ := h0.all (c', 1 - s.2) e1 hr
      obtain ⟨k1, k2⟩ := h0.tell _ _ hv
      by_cases q : v = n
      · have inE := (h0.edge (c', 1 - s.2)).mpr (q ▸ hv)
        have := hseen _ inE s.1 hc (by rw [show 1 - ((c', 1 - s.2) : Sp).2 = s.2 from by show 1 - (1 - s.2) = s.2; omega]; exact ho.symm)
        rw [show 1 - ((c', 1 - s.2) : Sp).2 = s.2 from by show 1 - (1 - s.2) = s.2; omega] at this
        exact h.seen s this
      · have k3 : Rch cs g (v.toNat + 1) s.1 s.2 := .inr ⟨hc, c', hc', ho, k1.2.1⟩
        obtain ⟨w, hw⟩ := h0.all s he (rch_mono (by have := k1.1; omega) k3)
        exact ⟨w, h.old s w hw⟩
  edge := fun s => by
    constructor
    · intro hs; have := (h.newN s hs).2; rw [this]; congr 1
    · intro hs
      rcases h.new s _ hs with h1 | ⟨_, _, h3, _⟩
      · have := (h0.tell s _ h1).2; omega
      · exact h3
theorem Lay.start {cs : List Cp} {g : Cp} (hg : g ∈ cs) : Lay cs g 0 [((g, 0), 0), ((g, 1), 0)] [(g, 0), (g, 1)] where
  nd := by simp
  sub := fun p hp => by
    simp at hp
    rcases hp with rfl | rfl
    · exact ⟨hg, .inl rfl⟩
    · exact ⟨hg, .inr rfl⟩
  tell := fun s v h => by
    have := findT_mem h
    simp at this
    rcases this with ⟨rfl, rfl⟩ | ⟨rfl, rfl⟩
    · exact ⟨⟨by omega, rfl, fun k hk => by simp at hk⟩, by omega⟩
    · exact ⟨⟨by omega, rfl, fun k hk => by simp at hk⟩, by omega⟩
  all := fun s he hr => by
    obtain ⟨c, e⟩ := s
    have hr' : c = g := hr
    subst hr'
    rcases he with h | h
    · obtain rfl : e = 0 := h
      exact ⟨0, by simp [findT]⟩
    · obtain rfl : e = 1 := h
      exact ⟨0, by simp [findT]⟩
  edge := fun s => by
    obtain ⟨c, e⟩ := s
    constructor
    · intro h
      simp at h
      rcases h with ⟨rfl, rfl⟩ | ⟨rfl, rfl⟩ <;> simp [findT]
    · intro h
      have := findT_mem h
      simpa using this
theorem Lay.stop {cs : List Cp} {g : Cp} {n : Nat} {L : Tl} (h : Lay cs g n L []) {s : Sp} (he : s.2 = 0 ∨ s.2 = 1) : ∀ {k : Nat}, Rch cs g k s.1 s.2 → ∃ v, findT L s = some v := by
  have main : ∀ (k : Nat) (s : Sp), (s.2 = 0 ∨ s.2 = 1) → Rch cs g k s.1 s.2 → Rch cs g n s.1 s.2 := by
    intro k
    induction k with
    | zero => intro s _ hr; exact rch_mono (Nat.zero_le _) hr
    | succ k ih =>
      intro s he hr
      rcases hr with hr | ⟨hc, c', hc', ho, hr⟩
      · exact ih s he hr
      · have e1 : 1 - s.2 = 0 ∨ 1 - s.2 = 1 := by omega
        have h2 := ih (c', 1 - s.2) e1 hr
        obtain ⟨v, hv⟩ := h.all (c', 1 - s.2) e1 h2
        obtain ⟨k1, k2⟩ := h.tell _ _ hv
        have k0 := k1.1
        have : v ≠ n := fun q => by have := (h.edge (c', 1 - s.2)).mpr (q ▸ hv); cases this
        exact rch_mono (show v.toNat + 1 ≤ n by omega) (.inr ⟨hc, c', hc', ho, k1.2.1⟩)
  intro k hr
  exact h.all s he (main k s he hr)
theorem nodup_len {α : Type} [DecidableEq α] : ∀ {xs ys : List α}, xs.Nodup → (∀ x ∈ xs, x ∈ ys) → xs.length ≤ ys.length
  | [], _, _, _ => Nat.zero_le _
  | x :: xs, ys, nd, h => by
    have h1 := h x List.mem_cons_self
    have := nodup_len (ys := ys.erase x) (List.nodup_cons.mp nd).2 fun y hy => by
      have ne : y ≠ x := by rintro rfl; exact (List.nodup_cons.mp nd).1 hy
      exact (List.mem_erase_of_ne ne).mpr (h y (List.mem_cons_of_mem _ hy))
    rw [List.length_erase_of_mem h1] at this
    have : 0 < ys.length := List.length_pos_of_mem h1
    rw [List.length_cons]; omega
theorem keys_len {cs : List Cp} {L : Tl} (nd : (L.map (·.1)).Nodup) (sub : ∀ p ∈ L, p.1.1 ∈ cs ∧ (p.1.2 = 0 ∨ p.1.2 = 1)) : L.length ≤ 2 * cs.length := by
  have := nodup_len (ys := cs.map (fun c => (c, (0 : Int))) ++ cs.map (fun c => (c, (1 : Int)))) nd fun s hs => by
    obtain ⟨p, hp, rfl⟩ := List.mem_map.mp hs
    obtain ⟨h1, h2⟩ := sub p hp
    rcases h2 with h2 | h2
    · exact List.mem_append_left _ (List.mem_map.mpr ⟨p.1.1, h1, Prod.ext rfl h2.symm⟩)
    · exact List.mem_append_right _ (List.mem_map.mpr ⟨p.1.1, h1, Prod.ext rfl h2.symm⟩)
  simp at this
  omega
abbrev fS (m g' : D) (L : Tl) (x3 : Option D) (far : Int) (x5 x6 x7 x8 x9 : Option D) : En := ⟨[some m, some g', some (dictT true L), x3, some (.int far), x5, x6, x7, x8, x9], none⟩
abbrev bS3 : FS := fSeq (fAsg (gN 9) (eTup (aCons (eN 8) (aCons (eBin subD (eC (.int 1)) (eN 7)) aNil)))) (fIf (tTst (eInL true (eN 9) (lN 2))) (fSeq (fSetN 2 (eN 9) (eN 4)) (fExpr (eAppN 5 (eN 9)))) fNext)
abbrev bS2 : FS := fFor (iE (eCall 3 F_moved (aCons (eN 0) (aCons (eN 6) (aCons (eBin subD (eC (.int 1)) (eN 7)) aNil))))) (gN 8) bS3
abbrev bS1 : FS := fSeq (fAug 4 addID (eC (.int 1))) (fSeq (fAsg (gN 5) (eLst aNil)) (fSeq (fFor (iE (eN 3)) (gT 2 (gsCons (gN 6) (gsCons (gN 7) gsNil))) bS2) (fAsg (gN 3) (eN 5))))
theorem steps_in {cs : List Cp} {g : Cp} {n : Nat} {L0 L : Tl} {N seen : List Sp} {m g' : D} {x3 x9 : Option D} {c0 : Cp} {e0 : Int} {c : Cp} (h : Rnd cs g n L0 L N seen) (hc : c ∈ cs) (he : e0 = 0 ∨ e0 = 1) (hr : Rch cs g (n + 1) c (1 - e0)) (hl : cs.length < 64) (hN : N.length ≤ L.length) :
    ∃ L' N', bS3 (fS m g' L x3 ((n : Int) + 1) (some (.nd .lst true (N.map stD))) (some (cD c0)) (some (.int e0)) (some (cD c)) x9) = .nx (fS m g' L' x3 ((n : Int) + 1) (some (.nd .lst true (N'.map stD))) (some (cD c0)) (some (.int e0)) (some (cD c)) (some (stD (c, 1 - e0)))) ∧ Rnd cs g n L0 L' N' (seen ++ [(c, 1 - e0)]) ∧ N'.length ≤ L'.length := by
  have kl := keys_len h.nd h.sub
  have st : D.nd .tup false [cD c, .int (1 - e0)] = stD (c, 1 - e0) := rfl
  cases hf : findT L (c, 1 - e0) with
  | some v =>
    refine ⟨L, N, ?_, h.had hf, hN⟩
    simp [lim, st, lN, hf]
  | none =>
    refine ⟨_, _, ?_, h.put (s := (c, 1 - e0)) hc (by show 1 - e0 = 0 ∨ 1 - e0 = 1; omega) hr hf, by simp; omega⟩
    have sd := setD_T (v := (n : Int) + 1) hf (by simp [lim]; omega)
    have ow : (fS m g' L x3 ((n : Int) + 1) (some (.nd .lst true (N.map stD))) (some (cD c0)) (some (.int e0)) (some (cD c)) (some (stD (c, 1 - e0)))).own 2 = some (.dn (L.map fun p => nkS p.1), flatT L) := rfl
    have nl : N.length < lim := by simp [lim]; omega
    simp [lim, st, lN, hf]
    simp only [dictT] at sd ⊢
    simp [sd, nl, dictT]
theorem steps_mid {cs : List Cp} {g : Cp} {n : Nat} {L0 : Tl} {m g' : D} {x3 : Option D} {c0 : Cp} {e0 : Int} (he : e0 = 0 ∨ e0 = 1) (hl : cs.length < 64) : ∀ (ts : List Cp), (∀ c ∈ ts, c ∈ cs ∧ Rch cs g (n + 1) c (1 - e0)) → ∀ (L : Tl) (N seen : List Sp) (x8 x9 : Option D), Rnd cs g n L0 L N seen → N.length ≤ L.length →
    ∃ L' N' x8' x9', forL (gN 8) bS3 (ts.map cD) (fS m g' L x3 ((n : Int) + 1) (some (.nd .lst true (N.map stD))) (some (cD c0)) (some (.int e0)) x8 x9) = .nx (fS m g' L' x3 ((n : Int) + 1) (some (.nd .lst true (N'.map stD))) (some (cD c0)) (some (.int e0)) x8' x9') ∧ Rnd cs g n L0 L' N' (seen ++ ts.map fun c => (c, 1 - e0)) ∧ N'.length ≤ L'.length := by
  intro ts
  induction ts with
  | nil => intro _ L N seen x8 x9 h hN; exact ⟨L, N, x8, x9, rfl, by simpa using h, hN⟩
  | cons c ts ih =>
    intro hts L N seen x8 x9 h hN
    obtain ⟨h1, h2⟩ := hts c List.mem_cons_self
    obtain ⟨L1, N1, e1, r1, n1⟩ := steps_in (m := m) (g' := g') (x3 := x3) (x9 := x9) (c0 := c0) h h1 he h2 hl hN
    obtain ⟨L', N', x8', x9', e2, r2, n2⟩ := ih (fun d hd => hts d (List.mem_cons_of_mem _ hd)) L1 N1 _ (some (cD c)) (some (stD (c, 1 - e0))) r1 n1
    refine ⟨L', N', x8', x9', ?_, by rw [List.map_cons]; simpa using r2, n2⟩
    rw [List.map_cons, forL_step (by simp) e1, e2]
theorem steps_out {cs : List Cp} {g : Cp} {n : Nat} {L0 : Tl} {m g' : D} {x3 : Option D} (hm : Tb cs m) (fm : frz m = m) (hl : cs.length < 64) : ∀ (E : List Sp), (∀ s ∈ E, s.1 ∈ cs ∧ (s.2 = 0 ∨ s.2 = 1) ∧ Rch cs g n s.1 s.2) → ∀ (L : Tl) (N seen : List Sp) (x6 x7 x8 x9 : Option D), Rnd cs g n L0 L N seen → N.length ≤ L.length →
    ∃ L' N' x6' x7' x8' x9' seen', forL (gT 2 (gsCons (gN 6) (gsCons (gN 7) gsNil))) bS2 (E.map stD) (fS m g' L x3 ((n : Int) + 1) (some (.nd .lst true (N.map stD))) x6 x7 x8 x9) = .nx (fS m g' L' x3 ((n : Int) + 1) (some (.nd .lst true (N'.map stD))) x6' x7' x8' x9') ∧ Rnd cs g n L0 L' N' seen' ∧ N'.length ≤ L'.length ∧ (∀ s ∈ seen, s ∈ seen') ∧ ∀ s ∈ E, ∀ c' ∈ cs, oth c' (1 - s.2) = oth s.1 (1 - s.2) → (c', 1 - s.2) ∈ seen' := by
  intro E
  induction E with
  | nil => intro _ L N seen x6 x7 x8 x9 h hN; exact ⟨L, N, x6, x7, x8, x9, seen, rfl, h, hN, fun s h => h, fun s hs => by cases hs⟩
  | cons s E ih =>
    intro hE L N seen x6 x7 x8 x9 h hN
    obtain ⟨k1, k2, k3⟩ := hE s List.mem_cons_self
    obtain ⟨ts, t1, t2⟩ := moved_ok (c := s.1) (e := 1 - s.2) hm (by omega) hl
    obtain ⟨t3, _, t4⟩ := t2
    obtain ⟨L1, N1, x8', x9', e1, r1, n1⟩ := steps_mid (m := m) (g' := g') (x3 := x3) (c0 := s.1) k2 hl ts (fun c hc => by
      obtain ⟨q1, q2⟩ := (t3 c).mp hc
      refine ⟨q1, .inr ⟨q1, s.1, k1, q2.symm, ?_⟩⟩
      rw [show 1 - (1 - s.2) = s.2 from by omega]
      exact k3) L N seen x8 x9 h hN
    obtain ⟨L', N', y6, y7, y8, y9, seen', e2, r2, n2, a1, a2⟩ := ih (fun d hd => hE d (List.mem_cons_of_mem _ hd)) L1 N1 _ (some (cD s.1)) (some (.int s.2)) x8' x9' r1 n1
    refine ⟨L', N', y6, y7, y8, y9, seen', ?_, r2, n2, fun q hq => a1 q (List.mem_append_left _ hq), fun q hq c' hc' ho => ?_⟩
    · rw [List.map_cons, forL_step (e1 := fS m g' L x3 ((n : Int) + 1) (some (.nd .lst true (N.map stD))) (some (cD s.1)) (some (.int s.2)) x8 x9) ?_ ?_, e2]
      · simp [gT, stD]
      · simp [fm, t1]
        exact e1
    · rcases List.mem_cons.mp hq with rfl | hq
      · exact a1 _ (List.mem_append_right _ (List.mem_map.mpr ⟨c', (t3 c').mpr ⟨hc', ho⟩, rfl⟩))
      · exact a2 q hq c' hc' ho
@[simp] theorem frzs_stD : ∀ {E : List Sp}, frzs (E.map stD) = E.map stD
  | [] => rfl
  | s :: E => by rw [List.map_cons, frzs_cons, frzs_stD, frz_stD]
theorem steps_loop {cs : List Cp} {g : Cp} {m g' : D} (hm : Tb cs m) (fm : frz m = m) (hl : cs.length < 64) : ∀ (k n : Nat) (L : Tl) (E : List Sp) (b : Bool) (x5 x6 x7 x8 x9 : Option D), Lay cs g n L E → 1 ≤ k → (E = [] ∨ 2 * cs.length + 2 ≤ L.length + k) →
    ∃ n' L' b' y5 y6 y7 y8 y9, whN (tTru (eN 3)) bS1 k (fS m g' L (some (.nd .lst b (E.map stD))) (n : Int) x5 x6 x7 x8 x9) = .nx (fS m g' L' (some (.nd .lst b' [])) (n' : Nat) y5 y6 y7 y8 y9) ∧ Lay cs g n' L' [] ∧ n' ≤ n + k := by
  intro k
  induction k with
  | zero => intro n L E b x5 x6 x7 x8 x9 _ h; omega
  | succ k ih =>
    intro n L E b x5 x6 x7 x8 x9 lay _ hE
    cases E with
    | nil =>
      refine ⟨n, L, false, x5, x6, x7, x8, x9, ?_, lay, by omega⟩
      unfold whN
      simp
    | cons s E =>
      have kl := keys_len lay.nd lay.sub
      have r0 : Rnd cs g n L L [] [] := ⟨lay.nd, lay.sub, fun _ _ h => h, fun _ _ h => .inl h, fun s h => (by cases h), fun s h => (by cases h)⟩
      obtain ⟨L', N', x6', x7', x8', x9', seen', e1, r1, n1, _, a1⟩ := steps_out (g := g) (n := n) (L0 := L) (m := m) (g' := g') (x3 := some (.nd .lst false ((s :: E).map stD))) hm fm hl (s :: E) (fun t ht => by
        have ft := (lay.edge t).mp ht
        have := lay.tell t _ ft
        have sb := lay.sub _ (findT_mem ft)
        refine ⟨sb.1, sb.2, ?_⟩
        have q := this.1.2.1
        rwa [show ((n : Int)).toNat = n from by omega] at q) L [] [] x6 x7 x8 x9 r0 (Nat.zero_le _)
      have lay' := r1.done lay a1
      have big : N' = [] ∨ L.length + 1 ≤ L'.length := by
        cases N' with
        | nil => exact .inl rfl
        | cons t N' =>
          right
          obtain ⟨q1, q2⟩ := r1.newN t List.mem_cons_self
          have := nodup_len (xs := t :: L.map (·.1)) (ys := L'.map (·.1)) (List.nodup_cons.mpr ⟨findT_none.mp q1, lay.nd⟩) fun u hu => by
            rcases List.mem_cons.mp hu with rfl | hu
            · exact List.mem_map.mpr ⟨_, findT_mem q2, rfl⟩
            · cases q3 : findT L u with
              | none => exact absurd hu (findT_none.mp q3)
              | some v => exact List.mem_map.mpr ⟨_, findT_mem (r1.old u v q3), rfl⟩
          simpa using this
      have hk : 2 * cs.length + 2 ≤ L.length + (k + 1) := by
        rcases hE with h | h
        · cases h
        · exact h
      obtain ⟨n', L2, b', y5, y6, y7, y8, y9, e2, lay2, le2⟩ := ih (n + 1) L' N' false (some (.nd .lst false (N'.map stD))) x6' x7' x8' x9' lay' (by omega) (big.imp id fun h => by omega)
      refine ⟨n', L2, b', y5, y6, y7, y8, y9, ?_, lay2, by omega⟩
      rw [Int.natCast_add] at e2
      unfold whN
      have tr : ((s :: E).map stD).isEmpty = false := rfl
      simp [lim] at e1 e2 ⊢
      rw [e1]
      simp
      exact e2
theorem steps_ok {cs : List Cp} {g : Cp} {m : D} (hm : Tb cs m) (fm : frz m = m) (hl : cs.length < 64) (hg : g ∈ cs) : ∃ n L, F_steps_left [m, cD g] = .ok (dictT true L) [none, none] ∧ Lay cs g n L [] ∧ n ≤ 2 * cs.length + 2 := by
  obtain ⟨n', L, b', y5, y6, y7, y8, y9, e1, lay, le⟩ := steps_loop (g := g) (g' := cD g) hm fm hl (2 * cs.length + 2) 0 _ _ true none none none none none (Lay.start hg) (by omega) (.inr (by omega))
  refine ⟨n', L, ?_, lay, by omega⟩
  have wh := fWh_of e1 (by simp)
  have dd : dispD [stD (g, 0), .int 0, stD (g, 1), .int 0] = some (dictT true [((g, 0), 0), ((g, 1), 0)]) := by
    have ne : nkS (g, 0) ≠ nkS (g, 1) := fun h => by have := nkS_inj h; simp at this
    have f0 : (stD (g, 0)).isF = true := rfl
    have f1 : (stD (g, 1)).isF = true := rfl
    simp [dispD, nkeys, dictT, flatT, f0, f1, ne]
  have s0 : D.nd .tup false [cD g, .int 0] = stD (g, 0) := rfl
  have s1 : D.nd .tup false [cD g, .int 1] = stD (g, 1) := rfl
  unfold F_steps_left B_steps_left
  simp [fDef, lim, s0, s1, dd]
  have wh' : fWh (tTru (eN 3)) bS1 ⟨[some m, some (cD g), some (dictT true [((g, 0), 0), ((g, 1), 0)]), some (.nd .lst true [stD (g, 0), stD (g, 1)]), some (.int 0), none, none, none, none, none], none⟩ = _ := wh
  rw [wh']
  simp
/-- a walk to the goal, told couple by couple, this end moving first -/
def Wk (cs : List Cp) (g : Cp) : Int → List Cp → Prop
  | _, [] => False
  | _, [c] => c = g
  | e, c :: c' :: r => c' ∈ cs ∧ oth c' e = oth c e ∧ Wk cs g (1 - e) (c' :: r)
def ltC (a b : Cp) : Prop := a.1 < b.1 ∨ (a.1 = b.1 ∧ a.2 < b.2)
def leW : List Cp → List Cp → Prop
  | [], _ => True
  | _ :: _, [] => False
  | a :: as, b :: bs => ltC a b ∨ (a = b ∧ leW as bs)
theorem wk_rch {cs : List Cp} {g : Cp} : ∀ {r : List Cp} {c : Cp} {e : Int}, c ∈ cs → Wk cs g e (c :: r) → Rch cs g r.length c e
  | [], _, _, _, h => h
  | _ :: _, _, _, hc, h => .inr ⟨hc, _, h.1, h.2.1, wk_rch h.1 h.2.2⟩
theorem refD_Tb {b : Bool} {L : Tl} {s : Sp} {v : Int} (h : findT L s = some v) : refD (dictT b L) (stD s) = some (.int v, dictT b L) := by
  have h := kposT (L := L) (s := s)
  unfold dictT
  rw [refD_nd]
  unfold cpos
  dsimp only
  rw [if_pos keysOkT, tnk_stD, Option.bind_some]
  cases hk : kpos (L.map fun p => nkS p.1) (nkS s) with
  | none => rw [hk] at h; simp at h; simp_all
  | some j =>
    rw [hk] at h
    obtain ⟨w, h1, h2⟩ := h
    obtain rfl : w = v := by simp_all
    cases b
    · simp [h2]
    · simp [h2, set_same h2]
abbrev fK (T st g' : D) (fi : Int) (m : D) (b : Bool) (L : Tl) (c : Cp) (e : Int) (ws : List Cp) (x9 x10 : Option D) : En := ⟨[some T, some st, some g', some (.int fi), some m, some (dictT b L), some (cD c), some (.int e), some (.nd .lst true (ws.map cD)), x9, x10], none⟩
abbrev tK : FT := tTst (eBin eqD (eGetA (eN 5) (aCons (eTup (aCons (eN 10) (aCons (eBin subD (eC (.int 1)) (eN 7)) aNil))) (aCons (eN 9) aNil))) (eBin subD (eN 9) (eC (.int 1))))
abbrev bK : FS := fSeq (fAsg (gN 9) (eIxN 5 (eTup (aCons (eN 6) (aCons (eN 7) aNil))))) (fSeq (fAsg (gN 6) (eBin idxD (eLc [10] (iE (eCall 3 F_moved (aCons (eN 4) (aCons (eN 6) (aCons (eN 7) aNil))))) (gN 10) tK (eN 10)) (eC (.int 0)))) (fSeq (fAsg (gN 7) (eBin subD (eC (.int 1)) (eN 7))) (fExpr (eAppN 8 (eN 6)))))
abbrev cK : FT := tTst (eBin gtD (eIxN 5 (eTup (aCons (eN 6) (aCons (eN 7) aNil)))) (eC (.int 0)))
@[simp] theorem kGetA_T {as : FA} {o : Bool} {L : Tl} {e : En} : kGetA as (dictT o L) e = (as e).bind (kGetB (dictT o L)) := (rfl)
theorem lcL_skip {vs : List Nat} {g : FG} {tt : FT} {el : FE} {e e1 e2 : En} {x : D} {xs acc : List D} (h1 : g x e = some e1) (h2 : tt e1 = .ok false e2) : lcL vs g tt el (x :: xs) acc e = lcL vs g tt el xs acc (delL e2 vs) := by
  conv => lhs; unfold lcL
  rw [h1]; dsimp only
  rw [h2, Rs.nox_ok, Rs.bind_ok, if_neg (by simp)]
theorem lc_near {T st g' m : D} {fi e v : Int} {L : Tl} {c : Cp} {ws : List Cp} : ∀ (ts acc : List Cp) (b : Bool), acc.length + ts.length < 64 →
    ∃ b', lcL [10] (gN 10) tK (eN 10) (ts.map cD) (acc.map cD) (fK T st g' fi m b L c e ws (some (.int v)) none) = .ok ((acc ++ ts.filter fun c' => decide (findT L (c', 1 - e) = some (v - 1))).map cD) (fK T st g' fi m b' L c e ws (some (.int v)) none) := by
  intro ts
  induction ts with
  | nil => intro acc b _; exact ⟨b, by simp [lcL]⟩
  | cons d ts ih =>
    intro acc b hl
    rw [List.length_cons] at hl
    have sd : D.nd .tup false [cD d, .int (1 - e)] = stD (d, 1 - e) := rfl
    have dd : isDictD (dictT false L) = true := rfl
    have tt : tK (fK T st g' fi m b L c e ws (some (.int v)) (some (cD d))) = .ok (decide (findT L (d, 1 - e) = some (v - 1))) (fK T st g' fi m false L c e ws (some (.int v)) (some (cD d))) := by
      unfold tK
      simp [lim, sd]
      cases hf : findT L (d, 1 - e) with
      | none =>
        have : ¬ v = v - 1 := by omega
        simp [eqD_int, this]
      | some w =>
        simp [eqD_int]
        rw [Bool.eq_iff_iff]
        simp
    by_cases hd : findT L (d, 1 - e) = some (v - 1)
    · obtain ⟨b', h⟩ := ih (acc ++ [d]) false (by simp; omega)
      refine ⟨b', ?_⟩
      rw [List.map_cons]
      rw [decide_eq_true hd] at tt
      rw [lcL_step (e1 := fK T st g' fi m b L c e ws (some (.int v)) (some (cD d))) (by simp) tt (d := cD d) (e3 := fK T st g' fi m false L c e ws (some (.int v)) (some (cD d))) (by simp) (by simp [lim]; omega)]
      simp [hd] at h ⊢
      exact h
    · obtain ⟨b', h⟩ := ih acc false (by omega)
      refine ⟨b', ?_⟩
      rw [List.map_cons]
      rw [decide_eq_false hd] at tt
      rw [lcL_skip (e1 := fK T st g' fi m b L c e ws (some (.int v)) (some (cD d))) (by simp) tt]
      simp [hd] at h ⊢
      exact h
/-- one turn of the walk -/
theorem walk_turn {cs : List Cp} {T st g' m : D} {fi e v : Int} {b : Bool} {L : Tl} {c c1 : Cp} {ws ts r : List Cp} {x9 : Option D} (fm : frz m = m) (hv : findT L (c, e) = some v) (hm : F_moved [m, cD c, .int e] = .ok (.nd .lst true (ts.map cD)) [none, none, none]) (ht : ts.length < 64) (hw : ws.length < lim)
    (hf : (ts.filter fun c' => decide (findT L (c', 1 - e) = some (v - 1))) = c1 :: r) : ∃ b', bK (fK T st g' fi m b L c e ws x9 none) = .nx (fK T st g' fi m b' L c1 (1 - e) (ws ++ [c1]) (some (.int v)) none) := by
  obtain ⟨b', h⟩ := lc_near (T := T) (st := st) (g' := g') (fi := fi) (m := m) (e := e) (v := v) (L := L) (c := c) (ws := ws) ts [] b (by simpa using ht)
  rw [hf] at h
  refine ⟨b', ?_⟩
  have s1 : D.nd .tup false [cD c, .int e] = stD (c, e) := rfl
  have i0 : ∀ n, ixN (n + 1) 0 = some 0 := fun n => ixN_nat (j := 0) (by omega)
  have id : ∀ xs : List D, idxD (.nd .lst false (cD c1 :: xs)) (.int 0) = some (cD c1) := fun xs => by
    unfold idxD
    simp [i0]
  have h' : lcL [10] (gN 10) tK (eN 10) (ts.map cD) [] ⟨[some T, some st, some g', some (.int fi), some m, some (dictT b L), some (cD c), some (.int e), some (.nd .lst true (ws.map cD)), some (.int v), none], none⟩ = .ok ((c1 :: r).map cD) ⟨[some T, some st, some g', some (.int fi), some m, some (dictT b' L), some (cD c), some (.int e), some (.nd .lst true (ws.map cD)), some (.int v), none], none⟩ := h
  simp [lim, s1, refD_Tb hv, fm, hm]
  rw [h']
  simp [id, hw]
theorem step_back {cs : List Cp} {g : Cp} {n : Nat} {L : Tl} {c : Cp} {e v : Int} (lay : Lay cs g n L []) (hv : findT L (c, e) = some v) (pos : 0 < v) : ∃ c' ∈ cs, oth c' e = oth c e ∧ Rch cs g (v - 1).toNat c' (1 - e) := by
  obtain ⟨⟨k0, k1, k2⟩, _⟩ := lay.tell _ _ hv
  have : v.toNat = (v - 1).toNat + 1 := by omega
  rw [this] at k1
  rcases k1 with k1 | ⟨_, c', h1, h2, h3⟩
  · exact absurd k1 (k2 _ (by omega))
  · exact ⟨c', h1, h2, h3⟩
theorem step_find {cs : List Cp} {g : Cp} {n : Nat} {L : Tl} {c c' : Cp} {e v : Int} (lay : Lay cs g n L []) (he : e = 0 ∨ e = 1) (hv : findT L (c, e) = some v) (pos : 0 < v) (hc : c ∈ cs) (h1 : c' ∈ cs) (h2 : oth c' e = oth c e) (h3 : Rch cs g (v - 1).toNat c' (1 - e)) : findT L (c', 1 - e) = some (v - 1) := by
  obtain ⟨u, hu⟩ := lay.stop (s := (c', 1 - e)) (by show 1 - e = 0 ∨ 1 - e = 1; omega) h3
  obtain ⟨⟨j0, j1, j2⟩, _⟩ := lay.tell _ _ hu
  obtain ⟨⟨k0, k1, k2⟩, _⟩ := lay.tell _ _ hv
  have a1 : u.toNat ≤ (v - 1).toNat := by
    rcases Nat.lt_or_ge (v - 1).toNat u.toNat with q | q
    · exact absurd h3 (j2 _ q)
    · exact q
  have a2 : v.toNat ≤ u.toNat + 1 := by
    rcases Nat.lt_or_ge (u.toNat + 1) v.toNat with q | q
    · exact absurd (show Rch cs g (u.toNat + 1) c e from .inr ⟨hc, c', h1, h2, j1⟩) (k2 _ q)
    · exact q
  rw [hu]; congr 1; omega
theorem wk_cons {cs : List Cp} {g c c' : Cp} {e : Int} {r : List Cp} (h1 : c' ∈ cs) (h2 : oth c' e = oth c e) (h : Wk cs g (1 - e) (c' :: r)) : Wk cs g e (c :: c' :: r) := ⟨h1, h2, h⟩
theorem walk_loop {cs : List Cp} {g : Cp} {n : Nat} {T st g' m : D} {fi : Int} {L : Tl} (hm : Tb cs m) (fm : frz m = m) (hl : cs.length < 64) (lay : Lay cs g n L []) : ∀ (k : Nat) (c : Cp) (e : Int) (b : Bool) (ws : List Cp) (x9 : Option D), c ∈ cs → (e = 0 ∨ e = 1) → findT L (c, e) = some (k : Int) → ws.length + k < 1000 →
    ∃ rest b' c' e' y9, whN cK bK (k + 1) (fK T st g' fi m b L c e ws x9 none) = .nx (fK T st g' fi m b' L c' e' (ws ++ rest) y9 none) ∧ rest.length = k ∧ Wk cs g e (c :: rest) ∧ ∀ r2, Wk cs g e (c :: r2) → r2.length = k → leW rest r2 := by
  intro k
  induction k with
  | zero =>
    intro c e b ws x9 hc he hv _
    refine ⟨[], b, c, e, x9, ?_, rfl, ?_, fun r2 _ _ => trivial⟩
    · have s1 : D.nd .tup false [cD c, .int e] = stD (c, e) := rfl
      unfold whN
      simp [lim, s1, refD_Tb hv]
    · exact (lay.tell _ _ hv).1.2.1
  | succ k ih =>
    intro c e b ws x9 hc he hv hk
    obtain ⟨ts, t1, t2⟩ := moved_ok (c := c) (e := e) hm he hl
    obtain ⟨t3, t4, t5⟩ := t2
    have pos : (0 : Int) < ((k + 1 : Nat) : Int) := by omega
    have vk : ((k + 1 : Nat) : Int) - 1 = (k : Int) := by omega
    have mem : ∀ c', c' ∈ (ts.filter fun c' => decide (findT L (c', 1 - e) = some (((k + 1 : Nat) : Int) - 1))) ↔ c' ∈ cs ∧ oth c' e = oth c e ∧ findT L (c', 1 - e) = some (((k + 1 : Nat) : Int) - 1) := fun c' => by
      rw [List.mem_filter, t3]
      simp [and_assoc]
    cases hf : ts.filter fun c' => decide (findT L (c', 1 - e) = some (((k + 1 : Nat) : Int) - 1)) with
    | nil =>
      obtain ⟨c', h1, h2, h3⟩ := step_back lay hv pos
      have := (mem c').mpr ⟨h1, h2, step_find lay he hv pos hc h1 h2 h3⟩
      rw [hf] at this; cases this
    | cons c1 r =>
      obtain ⟨b1, e1⟩ := walk_turn (T := T) (st := st) (g' := g') (fi := fi) (cs := cs) (b := b) (x9 := x9) (ws := ws) fm hv t1 (by omega) (by simp [lim]; omega) hf
      have in1 := (mem c1).mp (by rw [hf]; exact List.mem_cons_self)
      have hv1 := in1.2.2
      rw [vk] at hv1
      obtain ⟨rest, b', c', e', y9, e2, q1, q2, q3⟩ := ih c1 (1 - e) b1 (ws ++ [c1]) (some (.int ((k + 1 : Nat) : Int))) in1.1 (by omega) hv1 (by simp; omega)
      refine ⟨c1 :: rest, b', c', e', y9, ?_, by simp [q1], wk_cons in1.1 in1.2.1 q2, fun r2 w2 l2 => ?_⟩
      · have s1 : D.nd .tup false [cD c, .int e] = stD (c, e) := rfl
        have ck : cK (fK T st g' fi m b L c e ws x9 none) = .ok true (fK T st g' fi m b L c e ws x9 none) := by
          unfold cK
          simp [lim, s1, refD_Tb hv]
        unfold whN
        rw [ck]
        simp only [Rs.toS_ok, if_true]
        rw [e1]
        simp only
        rw [e2]
        simp
      · cases r2 with
        | nil => simp at l2
        | cons c2 r2 =>
          obtain ⟨w3, w4, w5⟩ := w2
          have l3 : r2.length = k := by simpa using l2
          have rc := wk_rch w3 w5
          have f2 := step_find lay he hv pos hc w3 w4 (by rw [vk]; simpa [l3] using rc)
          have m2 := (mem c2).mpr ⟨w3, w4, f2⟩
          have sorted := t4.filter fun c' => decide (findT L (c', 1 - e) = some (((k + 1 : Nat) : Int) - 1))
          rw [hf] at m2 sorted
          rcases List.mem_cons.mp m2 with rfl | m2
          · exact .inr ⟨rfl, q3 r2 w5 l3⟩
          · have lt := (List.pairwise_cons.mp sorted).1 c2 m2
            refine .inl ?_
            have o1 := in1.2.1
            rcases he with rfl | rfl
            · exact .inl (by simpa [own] using lt)
            · refine .inr ⟨?_, by simpa [own] using lt⟩
              simp [oth] at o1 w4
              rw [o1, w4]
def WalkIs (cs : List Cp) (start goal : Cp) (first : Int) (d : D) : Prop :=
  (d = .non ∧ ∀ k, ¬ Rch cs goal k start first) ∨
  ∃ rest : List Cp, d = .nd .lst true ((start :: rest).map cD) ∧ Rch cs goal rest.length start first ∧ (∀ k < rest.length, ¬ Rch cs goal k start first) ∧ Wk cs goal first (start :: rest) ∧ rest.length ≤ 2 * cs.length + 2 ∧ ∀ r2, Wk cs goal first (start :: r2) → r2.length = rest.length → leW rest r2
theorem walk_bear {cs : List Cp} {start goal : Cp} {first : D} {o : Bool} (hl : cs.length < 64) (h : ¬ (start ∈ cs ∧ goal ∈ cs)) : F_walk_of [.nd .lst o (cs.map cD), cD start, cD goal, first] = .exc xBear [none, none, none, none] := by
  have hb := bear_is (told := [start, goal]) (o := false) (o' := true) hl
  rw [if_neg (by simpa using h)] at hb
  have hb' : F_check_bear [.nd .lst false (cs.map cD), .nd .lst true [cD start, cD goal]] = _ := hb
  unfold F_walk_of B_walk_of
  simp [fDef, lim, hb']
theorem walk_num {cs : List Cp} {start goal : Cp} {first : Int} {o : Bool} (hl : cs.length < 64) (h : start ∈ cs ∧ goal ∈ cs) (hf : ¬ (first = 0 ∨ first = 1)) : F_walk_of [.nd .lst o (cs.map cD), cD start, cD goal, .int first] = .exc xNum [none, none, none, none] := by
  have hb := bear_is (told := [start, goal]) (o := false) (o' := true) hl
  rw [if_pos (by simpa using h)] at hb
  have hb' : F_check_bear [.nd .lst false (cs.map cD), .nd .lst true [cD start, cD goal]] = _ := hb
  have he := end_is (e := first)
  rw [if_neg hf] at he
  unfold F_walk_of B_walk_of
  simp [fDef, lim, hb', he]
theorem walk_ok {cs : List Cp} {start goal : Cp} {first : Int} {o : Bool} (hl : cs.length < 64) (h : start ∈ cs ∧ goal ∈ cs) (hf : first = 0 ∨ first = 1) : ∃ d, F_walk_of [.nd .lst o (cs.map cD), cD start, cD goal, .int first] = .ok d [none, none, none, none] ∧ WalkIs cs start goal first d := by
  have hb := bear_is (told := [start, goal]) (o := false) (o' := true) hl
  rw [if_pos (by simpa using h)] at hb
  have hb' : F_check_bear [.nd .lst false (cs.map cD), .nd .lst true [cD start, cD goal]] = _ := hb
  have he := end_is (e := first)
  rw [if_pos hf] at he
  obtain ⟨m, m1, m2⟩ := moves_ok (cs := cs) (o := false) hl
  obtain ⟨n, L, s1, lay, ln⟩ := steps_ok (g := goal) m2 (frz_frz m) hl h.2
  have st : D.nd .tup false [cD start, .int first] = stD (start, first) := rfl
  cases hv : findT L (start, first) with
  | none =>
    refine ⟨.non, ?_, .inl ⟨rfl, fun k r => ?_⟩⟩
    · unfold F_walk_of B_walk_of
      simp [fDef, lim, hb', he, m1, s1, st, hv, lN]
    · obtain ⟨v, q⟩ := lay.stop (s := (start, first)) hf r
      rw [hv] at q; cases q
  | some v =>
    obtain ⟨⟨k0, k1, k2⟩, k3⟩ := lay.tell _ _ hv
    have vn : (v.toNat : Int) = v := by omega
    obtain ⟨rest, b', c', e', y9, e1, q1, q2, q3⟩ := walk_loop (T := .nd .lst false (cs.map cD)) (st := cD start) (g' := cD goal) (fi := first) m2 (frz_frz m) hl lay v.toNat start first true [start] none h.1 hf (by rw [vn]; exact hv) (by simp; omega)
    refine ⟨.nd .lst true ((start :: rest).map cD), ?_, .inr ⟨rest, rfl, by rw [q1]; exact k1, by rw [q1]; exact k2, q2, by omega, fun r2 w l => q3 r2 w (by omega)⟩⟩
    have wh := fWh_of e1 (by simp)
    have wh' : fWh cK bK ⟨[some (.nd .lst false (cs.map cD)), some (cD start), some (cD goal), some (.int first), some (frz m), some (dictT true L), some (cD start), some (.int first), some (.nd .lst true [cD start]), none, none], none⟩ = _ := wh
    unfold F_walk_of B_walk_of
    simp [fDef, lim, hb', he, m1, s1, st, hv, lN]
    rw [wh']
    simp
end Lw

set_option Elab.async false
set_option linter.all false
set_option maxRecDepth 100000
set_option maxHeartbeats 2000000
/-! The laws' own search of walks, and their drawn tables. -/
namespace Lw
open PySem L2 Bx
noncomputable section
def B_law_straight : FS := (fSeq (fAsg (gN 2) (eLst (aCons (eTup (aCons (eC (.int 0)) (aCons (eC (.int 0)) aNil))) aNil))) (fSeq (fFor (iRng2 (aCons (eC (.int 1)) (aCons (eBin addD (eN 0) (eC (.int 1))) aNil))) (gN 3) (fSeq (fAsg (gT 2 (gsCons (gN 4) (gsCons (gN 5) gsNil))) (eIxN 2 (eUn negD (eC (.int 1))))) (fExpr (eAppN 2 (eIf (tTst (eBin eqD (eBin modD (eCallB intD (aCons (eBin addD (eN 3) (eN 1)) aNil)) (eC (.int 2))) (eC (.int 1)))) (eTup (aCons (eBin addD (eN 4) (eC (.int 1))) (aCons (eN 5) aNil))) (eTup (aCons (eN 4) (aCons (eBin addD (eN 5) (eC (.int 1))) aNil)))))))) (fRetV 2)))
def F_law_straight : List D → CR := fDef 6 [] B_law_straight
def B_law_renamed : FS := (fSeq (fAsg (gN 2) (eLst (aCons (eBin addD (eC (.int 1)) (eCall 2 F_law_pick (aIo 0 (aCons (eC (.int 196)) aNil)))) (aCons (eBin addD (eC (.int 1)) (eCall 2 F_law_pick (aIo 0 (aCons (eC (.int 196)) aNil)))) aNil)))) (fSeq (fAsg (gN 3) (eLst (aCons (eCall 2 F_law_pick (aIo 0 (aCons (eC (.int 197)) aNil))) (aCons (eCall 2 F_law_pick (aIo 0 (aCons (eC (.int 197)) aNil))) aNil)))) (fRet (eLc [4, 5] (iE (eN 1)) (gT 2 (gsCons (gN 4) (gsCons (gN 5) gsNil))) tYesF (eTup (aCons (eBin modD (eCallB intD (aCons (eBin addD (eBin mulD (eN 4) (eIxN 2 (eC (.int 0)))) (eIxN 3 (eC (.int 0)))) aNil)) (eC (.int 197))) (aCons (eBin modD (eCallB intD (aCons (eBin addD (eBin mulD (eN 5) (eIxN 2 (eC (.int 1)))) (eIxN 3 (eC (.int 1)))) aNil)) (eC (.int 197))) aNil)))))))
def F_law_renamed : List D → CR := fDef 6 [0] B_law_renamed
def B_law_table : FS := (fSeq (fAsg (gN 4) (eLst aNil)) (fSeq (fFor (iRng1 (aCons (eN 1) aNil)) (gN 5) (fAsg (gN 4) (eBin addD (eN 4) (eLc [6] (iRng1 (aCons (eN 2) aNil)) (gN 6) (tTst (eBin ltD (eCall 2 F_law_pick (aIo 0 (aCons (eC (.int 4)) aNil))) (eN 3))) (eTup (aCons (eN 5) (aCons (eN 6) aNil))))))) (fRet (eIf (tTst (eBin gtD (eCallB lenD (aIo 4 aNil)) (eC (.int 0)))) (eN 4) (eLst (aCons (eTup (aCons (eCall 2 F_law_pick (aIo 0 (aCons (eN 1) aNil))) (aCons (eCall 2 F_law_pick (aIo 0 (aCons (eN 2) aNil))) aNil))) aNil))))))
def F_law_table : List D → CR := fDef 7 [0] B_law_table
def B_law_shuffled : FS := (fSeq (fAsg (gN 2) (eCallF listD (aCons (eN 1) aNil))) (fSeq (fAsg (gN 3) (eLst aNil)) (fSeq (fWh (tTst (eBin gtD (eCallB lenD (aIo 2 aNil)) (eC (.int 0)))) (fExpr (eAppN 3 (ePopN 2 (eCall 2 F_law_pick (aIo 0 (aCons (eCallB lenD (aIo 2 aNil)) aNil))))))) (fRetV 3))))
def F_law_shuffled : List D → CR := fDef 4 [0] B_law_shuffled
def B_law_moves : FS := (fRet (eLc [3] (iE (eN 0)) (gN 3) (tTst (eBin eqD (eIxN 3 (eBin subD (eC (.int 1)) (eN 2))) (eIxN 1 (eBin subD (eC (.int 1)) (eN 2))))) (eN 3)))
def F_law_moves : List D → CR := fDef 4 [] B_law_moves
def B_law_walk : FS := (fSeq (fAsg (gN 4) (eDispN (aCons (eN 1) (aCons (eLst (aCons (eN 1) aNil)) aNil)))) (fSeq (fAsg (gN 5) (eN 3)) (fSeq (fAsg (gN 6) (eC (.int 0))) (fSeq (fFor (iRng1 (aCons (eBin addD (eBin mulD (eC (.int 2)) (eCallB lenD (aIo 0 aNil))) (eC (.int 3))) aNil)) (gN 7) (fSeq (fIf (tTst (eInL false (eN 2) (lN 4))) (fRet (eIxN 4 (eN 2))) fNext) (fSeq (fAsg (gN 8) eDn0) (fSeq (fFor (iK (eN 4)) (gN 9) (fFor (iE (eCall 3 F_law_moves (aCons (eN 0) (aCons (eN 9) (aCons (eN 5) aNil))))) (gN 10) (fSeq (fAsg (gN 11) (eBin addD (eIxN 4 (eN 9)) (eLst (aCons (eN 10) aNil)))) (fIf (tOr (tTst (eInL true (eN 10) (lN 8))) (tTst (eBin ltAD (eN 11) (eIxN 8 (eN 10))))) (fSetN 8 (eN 10) (eN 11)) fNext)))) (fSeq (fAsg (gN 6) (eIf (tTst (eBin eqD (eCallB lenND (aIo 8 aNil)) (eCallB lenND (aIo 4 aNil)))) (eBin addD (eN 6) (eC (.int 1))) (eC (.int 0)))) (fSeq (fIf (tTst (eBin eqD (eN 6) (eC (.int 2)))) (fRet (eC .non)) fNext) (fSeq (fAsg (gN 4) (eN 8)) (fAsg (gN 5) (eBin subD (eC (.int 1)) (eN 5)))))))))) (fRet (eC .non))))))
def F_law_walk : List D → CR := fDef 12 [] B_law_walk
end

/-! ### the order of walks -/
theorem ltC_irrefl {a : Cp} (h : ltC a a) : False := by unfold ltC at h; omega
theorem ltC_trans {a b c : Cp} (h : ltC a b) (k : ltC b c) : ltC a c := by unfold ltC at *; omega
theorem ltC_total {a b : Cp} (h : a ≠ b) : ltC a b ∨ ltC b a := by
  unfold ltC
  have : ¬ (a.1 = b.1 ∧ a.2 = b.2) := fun k => h (Prod.ext k.1 k.2)
  omega
theorem leW_refl : ∀ a : List Cp, leW a a
  | [] => trivial
  | a :: as => .inr ⟨rfl, leW_refl as⟩
theorem leW_trans : ∀ {a b c : List Cp}, leW a b → leW b c → leW a c
  | [], _, _, _, _ => trivial
  | _ :: _, [], _, h, _ => h.elim
  | _ :: _, _ :: _, [], _, h => h.elim
  | x :: a, y :: b, z :: c, h, k => by
    rcases h with h | ⟨rfl, h⟩
    · rcases k with k | ⟨rfl, k⟩
      · exact .inl (ltC_trans h k)
      · exact .inl h
    · rcases k with k | ⟨rfl, k⟩
      · exact .inl k
      · exact .inr ⟨rfl, leW_trans h k⟩
theorem leW_anti : ∀ {a b : List Cp}, a.length = b.length → leW a b → leW b a → a = b
  | [], [], _, _, _ => rfl
  | [], _ :: _, h, _, _ => by simp at h
  | _ :: _, [], h, _, _ => by simp at h
  | x :: a, y :: b, hl, h, k => by
    rcases h with h | ⟨rfl, h⟩
    · rcases k with k | ⟨rfl, k⟩
      · exact (ltC_irrefl (ltC_trans h k)).elim
      · exact (ltC_irrefl h).elim
    · rcases k with k | ⟨_, k⟩
      · exact (ltC_irrefl k).elim
      · rw [leW_anti (by simpa using hl) h k]
theorem leW_total : ∀ {a b : List Cp}, a.length = b.length → leW a b ∨ leW b a
  | [], _, _ => .inl trivial
  | _ :: _, [], h => by simp at h
  | x :: a, y :: b, hl => by
    by_cases e : x = y
    · rcases leW_total (a := a) (b := b) (by simpa using hl) with h | h
      · exact .inl (.inr ⟨e, h⟩)
      · exact .inr (.inr ⟨e.symm, h⟩)
    · rcases ltC_total e with h | h
      · exact .inl (.inl h)
      · exact .inr (.inl h)
theorem leW_snoc {x : Cp} : ∀ {a b : List Cp}, a.length = b.length → leW a b → leW (a ++ [x]) (b ++ [x])
  | [], [], _, _ => leW_refl _
  | [], _ :: _, h, _ => by simp at h
  | _ :: _, [], h, _ => by simp at h
  | _ :: a, _ :: b, hl, h => by
    rcases h with h | ⟨rfl, h⟩
    · exact .inl h
    · exact .inr ⟨rfl, leW_snoc (by simpa using hl) h⟩
theorem lt_cp {a b : Cp} (h : a ≠ b) : PySem.W.DatumOrd.lt a b = true ↔ ltC a b := by
  show (if a.1 = b.1 then decide (a.2 < b.2) else decide (a.1 < b.1)) = true ↔ _
  unfold ltC
  have : ¬ (a.1 = b.1 ∧ a.2 = b.2) := fun k => h (Prod.ext k.1 k.2)
  split <;> simp <;> omega
theorem listLt_iff : ∀ {a b : List Cp}, a.length = b.length → (PySem.W.listLt a b = true ↔ ¬ leW b a)
  | [], [], _ => by simp [PySem.W.listLt, leW]
  | [], _ :: _, h => by simp at h
  | _ :: _, [], h => by simp at h
  | x :: a, y :: b, hl => by
    have ih := listLt_iff (a := a) (b := b) (by simpa using hl)
    unfold PySem.W.listLt
    by_cases e : x = y
    · subst e
      rw [if_pos rfl, ih]
      constructor
      · rintro h (k | ⟨_, k⟩)
        · exact ltC_irrefl k
        · exact h k
      · exact fun h k => h (.inr ⟨rfl, k⟩)
    · rw [if_neg e, lt_cp e]
      constructor
      · rintro h (k | ⟨k, _⟩)
        · exact ltC_irrefl (ltC_trans h k)
        · exact e k.symm
      · intro h
        rcases ltC_total e with k | k
        · exact k
        · exact absurd (.inl k) h
theorem pyds_cD : ∀ {a : List Cp}, pyds (a.map cD) = a.map PySem.W.Datum.toD
  | [] => rfl
  | c :: a => by rw [List.map_cons, List.map_cons, ← pyds_cD]; rfl
theorem eqOks_cD : ∀ {a : List Cp}, eqOks (a.map cD) = true
  | [] => rfl
  | c :: a => by rw [List.map_cons]; unfold eqOks; rw [eqOks_cD]; rfl
theorem depth_cD : ∀ {a : List Cp}, PyData.depthAll (a.map PySem.W.Datum.toD) ≤ 3
  | [] => by simp [PyData.depthAll]
  | c :: a => by
    have h := depth_cD (a := a)
    rw [List.map_cons]
    have e : (PySem.W.Datum.toD c : PyData) = .tuple [.int c.1, .int c.2] := rfl
    rw [e]
    simp [PyData.depthAll, PyData.depth]
    omega
theorem ltAD_cD {o o' : Bool} {a b : List Cp} (h : a.length = b.length) : ∃ k : Bool, ltAD (.nd .lst o (a.map cD)) (.nd .lst o' (b.map cD)) = some (.bl k) ∧ (k = true ↔ ¬ leW b a) := by
  have pa : pyd (.nd .lst o (a.map cD)) = PySem.W.Datum.toD a := by show PyData.list (pyds (a.map cD)) = _; rw [pyds_cD]; rfl
  have pb : pyd (.nd .lst o' (b.map cD)) = PySem.W.Datum.toD b := by show PyData.list (pyds (b.map cD)) = _; rw [pyds_cD]; rfl
  refine ⟨PySem.W.listLt a b, ?_, listLt_iff h⟩
  unfold ltAD ltOk
  rw [pa, pb, PySem.W.DatumOrd.alike a b]
  have d : (PySem.W.Datum.toD a : PyData).depth ≤ 4 := by
    show PyData.depth (.list (a.map PySem.W.Datum.toD)) ≤ 4
    have := depth_cD (a := a)
    simp [PyData.depth]
    omega
  have n : isntN (PySem.W.Datum.toD a) = true := rfl
  have ea : eqOk (.nd .lst o (a.map cD)) = true := by show (true && eqOks (a.map cD)) = true; rw [eqOks_cD]; rfl
  have eb : eqOk (.nd .lst o' (b.map cD)) = true := by show (true && eqOks (b.map cD)) = true; rw [eqOks_cD]; rfl
  rw [ea, eb, n, decide_eq_true (by omega), if_pos (by decide), PySem.W.DatumOrd.lt_eq a b]
  rfl

/-! ### forward: the couples that so many steps reach -/
def mv (e : Int) : Nat → Int
  | 0 => e
  | n + 1 => 1 - mv e n
theorem mv_flip {e : Int} : ∀ n, mv (1 - e) n = 1 - mv e n
  | 0 => rfl
  | n + 1 => by show 1 - mv (1 - e) n = 1 - (1 - mv e n); rw [mv_flip n]
theorem mv_two {e : Int} (n : Nat) : mv e (n + 2) = mv e n := by show 1 - (1 - mv e n) = mv e n; omega
theorem mv_01 {e : Int} (h : e = 0 ∨ e = 1) : ∀ n, mv e n = 0 ∨ mv e n = 1
  | 0 => h
  | n + 1 => by have := mv_01 h n; show 1 - mv e n = 0 ∨ 1 - mv e n = 1; omega
theorem wk_snoc {cs : List Cp} {g c' : Cp} : ∀ {r : List Cp} {x : Cp} {e : Int}, Wk cs g e (x :: (r ++ [c'])) ↔ c' = g ∧ ∃ c, Wk cs c e (x :: r) ∧ c' ∈ cs ∧ oth c' (mv e r.length) = oth c (mv e r.length)
  | [], x, e => by
    constructor
    · rintro ⟨h1, h2, h3⟩
      exact ⟨h3, x, rfl, h1, h2⟩
    · rintro ⟨h3, c, h0, h1, h2⟩
      have h0 : x = c := h0
      subst h0
      exact ⟨h1, h2, h3⟩
  | y :: r, x, e => by
    have ih := wk_snoc (cs := cs) (g := g) (c' := c') (r := r) (x := y) (e := 1 - e)
    rw [mv_flip] at ih
    constructor
    · rintro ⟨h1, h2, h3⟩
      obtain ⟨k1, c, k2, k3⟩ := ih.mp h3
      exact ⟨k1, c, ⟨h1, h2, k2⟩, k3⟩
    · rintro ⟨k1, c, ⟨h1, h2, k2⟩, k3⟩
      exact ⟨h1, h2, ih.mpr ⟨k1, c, k2, k3⟩⟩
/-- c stands behind t steps from rest -/
def KS (cs : List Cp) (first : Int) (rest : Cp) (t : Nat) (c : Cp) : Prop := ∃ r, r.length = t ∧ Wk cs c first (rest :: r)
theorem snoc_of {r : List Cp} {t : Nat} (h : r.length = t + 1) : ∃ r0 x, r = r0 ++ [x] ∧ r0.length = t := by
  have ne : r ≠ [] := by rintro rfl; simp at h
  exact ⟨r.dropLast, r.getLast ne, (List.dropLast_concat_getLast ne).symm, by rw [List.length_dropLast]; omega⟩
theorem ks_succ {cs : List Cp} {first : Int} {rest : Cp} {t : Nat} {c' : Cp} : KS cs first rest (t + 1) c' ↔ c' ∈ cs ∧ ∃ c, KS cs first rest t c ∧ oth c' (mv first t) = oth c (mv first t) := by
  constructor
  · rintro ⟨r, hl, h⟩
    obtain ⟨r0, x, rfl, l0⟩ := snoc_of hl
    obtain ⟨rfl, c, k1, k2, k3⟩ := wk_snoc.mp h
    rw [l0] at k3
    exact ⟨k2, c, ⟨r0, l0, k1⟩, k3⟩
  · rintro ⟨k2, c, ⟨r0, l0, k1⟩, k3⟩
    exact ⟨r0 ++ [c'], by simp [l0], wk_snoc.mpr ⟨rfl, c, k1, k2, by rw [l0]; exact k3⟩⟩
theorem ks_zero {cs : List Cp} {first : Int} {rest c : Cp} : KS cs first rest 0 c ↔ c = rest := by
  constructor
  · rintro ⟨r, hl, h⟩
    have : r = [] := List.length_eq_zero_iff.mp hl
    subst this
    exact (show rest = c from h).symm
  · rintro rfl; exact ⟨[], rfl, rfl⟩
theorem ks_mem {cs : List Cp} {first : Int} {rest c : Cp} (hr : rest ∈ cs) : ∀ {t : Nat}, KS cs first rest t c → c ∈ cs
  | 0, h => ks_zero.mp h ▸ hr
  | _ + 1, h => (ks_succ.mp h).1
theorem ks_mono {cs : List Cp} {first : Int} {rest c : Cp} {t : Nat} (hr : rest ∈ cs) (h : KS cs first rest t c) : KS cs first rest (t + 1) c := ks_succ.mpr ⟨ks_mem hr h, c, h, rfl⟩
/-- two turns without a new one: there is never one again -/
theorem ks_fix {cs : List Cp} {first : Int} {rest : Cp} {t : Nat} (h1 : ∀ c, KS cs first rest (t + 1) c ↔ KS cs first rest t c) (h2 : ∀ c, KS cs first rest (t + 2) c ↔ KS cs first rest t c) : ∀ s c, KS cs first rest (t + s) c ↔ KS cs first rest t c := by
  have main : ∀ s, (∀ c, KS cs first rest (t + s) c ↔ KS cs first rest t c) ∧ (∀ c, KS cs first rest (t + s + 1) c ↔ KS cs first rest t c) ∧ (mv first (t + s) = mv first t ∨ mv first (t + s) = mv first (t + 1)) ∧ (mv first (t + s + 1) = mv first t ∨ mv first (t + s + 1) = mv first (t + 1)) := by
    intro s
    induction s with
    | zero => exact ⟨fun c => Iff.rfl, h1, .inl rfl, .inr rfl⟩
    | succ s ih =>
      obtain ⟨a, b, m1, m2⟩ := ih
      refine ⟨b, fun c => ?_, m2, ?_⟩
      · rw [show t + (s + 1) + 1 = (t + s + 1) + 1 from by omega, ks_succ]
        rcases m2 with m | m
        · rw [m]
          rw [← h1 c, ks_succ]
          exact and_congr Iff.rfl (exists_congr fun c => and_congr (b c) Iff.rfl)
        · rw [m]
          rw [← h2 c, show t + 2 = (t + 1) + 1 from rfl, ks_succ]
          exact and_congr Iff.rfl (exists_congr fun c => and_congr ((b c).trans (h1 c).symm) Iff.rfl)
      · rw [show t + (s + 1) + 1 = t + s + 2 from by omega, mv_two]
        exact m1
  exact fun s => (main s).1
theorem rch_wk {cs : List Cp} {g : Cp} : ∀ {k : Nat} {c : Cp} {e : Int}, Rch cs g k c e → ∃ r, r.length ≤ k ∧ Wk cs g e (c :: r)
  | 0, _, _, h => ⟨[], Nat.le_refl _, h⟩
  | k + 1, c, e, h => by
    rcases h with h | ⟨_, c', h1, h2, h3⟩
    · obtain ⟨r, k1, k2⟩ := rch_wk h
      exact ⟨r, by omega, k2⟩
    · obtain ⟨r, k1, k2⟩ := rch_wk h3
      exact ⟨c' :: r, by simp; omega, h1, h2, k2⟩
/-- the least of the walks of so many steps -/
def Least (cs : List Cp) (first : Int) (rest : Cp) (t : Nat) (c : Cp) (r : List Cp) : Prop := r.length = t ∧ Wk cs c first (rest :: r) ∧ ∀ r2, r2.length = t → Wk cs c first (rest :: r2) → leW r r2
/-! ### dicts of walks, as data -/
def nkC (c : Cp) : NestedKey := .tup [.num c.1, .num c.2]
@[simp] theorem tnk_cD {c : Cp} : tnkD (cD c) = some (nkC c) := by
  obtain ⟨a, b⟩ := c
  unfold tnkD cD
  dsimp only
  simp [nkD, nksD, nkC, NestedKey.fits, NestedKey.depth, NestedKey.depthAll]
theorem nkC_inj {s t : Cp} (h : nkC s = nkC t) : s = t := by
  obtain ⟨a, b⟩ := s
  obtain ⟨a', b'⟩ := t
  unfold nkC at h
  simp at h
  simp [h]
abbrev Wl := List (Cp × List Cp)
/-- a walk as data; the key's own couple first -/
def wD (ws : List Cp) : D := .nd .lst false (ws.map cD)
def flatW (L : Wl) : List D := L.flatMap fun p => [cD p.1, wD p.2]
abbrev nkL (L : Wl) : List NestedKey := L.map fun p => nkC p.1
def findW (L : Wl) (c : Cp) : Option (List Cp) := (L.find? fun p => p.1 = c).map (·.2)
theorem flatW_cons {p : Cp × List Cp} {L : Wl} : flatW (p :: L) = cD p.1 :: wD p.2 :: flatW L := rfl
theorem flatW_len : ∀ {L : Wl}, (flatW L).length = 2 * L.length
  | [] => rfl
  | p :: L => by rw [flatW_cons, List.length_cons, List.length_cons, List.length_cons, flatW_len]; omega
@[simp] theorem frz_wD {ws : List Cp} : frz (wD ws) = wD ws := by unfold wD; rw [frz_nd, frzs_cD]
@[simp] theorem frzs_flatW : ∀ {L : Wl}, frzs (flatW L) = flatW L
  | [] => rfl
  | p :: L => by rw [flatW_cons, frzs_cons, frzs_cons, frzs_flatW, frz_wD, frz_cD]
@[simp] theorem keysOkW : ∀ {L : Wl}, keysOk (nkL L) (flatW L) = true
  | [] => rfl
  | p :: L => by
    have ih := keysOkW (L := L)
    unfold nkL at ih ⊢
    rw [List.map_cons, flatW_cons]; unfold keysOk; rw [ih, tnk_cD]; simp
theorem keysOfW : ∀ {L : Wl}, keysOf (flatW L) = L.map fun p => cD p.1
  | [] => rfl
  | p :: L => by rw [flatW_cons, List.map_cons, ← keysOfW]; rfl
theorem kposW {L : Wl} {s : Cp} : match kpos (nkL L) (nkC s) with
    | none => findW L s = none
    | some j => ∃ v, findW L s = some v ∧ (flatW L)[2 * j + 1]? = some (wD v) ∧ ∃ p, L[j]? = some p ∧ p.1 = s := by
  have : nkL L = (L.map (·.1)).map nkC := by rw [List.map_map]; rfl
  rw [this, kpos_map fun _ _ => nkC_inj]
  clear this
  induction L with
  | nil => rfl
  | cons p L ih =>
    rw [List.map_cons, kpos_cons]
    by_cases h : p.1 = s
    · rw [if_pos h]
      exact ⟨p.2, by simp [findW, h], by rw [flatW_cons]; rfl, p, rfl, h⟩
    · rw [if_neg h]
      have hf : findW (p :: L) s = findW L s := by simp [findW, h]
      cases hk : kpos (L.map (·.1)) s with
      | none => rw [hk] at ih; rw [hf]; exact ih
      | some j =>
        rw [hk] at ih
        obtain ⟨v, h1, h2, q, h3, h4⟩ := ih
        refine ⟨v, hf.trans h1, ?_, q, h3, h4⟩
        rw [flatW_cons, show 2 * (j + 1) + 1 = (2 * j + 1) + 2 from by omega]
        exact h2
/-- X is this dict, but for what is frozen of it -/
def IsW (L : Wl) (X : D) : Prop := ∃ o xs, X = .nd (.dn (nkL L)) o xs ∧ frzs xs = flatW L ∧ keysOk (nkL L) xs = true
def dictW (o : Bool) (L : Wl) : D := .nd (.dn (nkL L)) o (flatW L)
theorem isW_dict {o : Bool} {L : Wl} : IsW L (dictW o L) := ⟨o, flatW L, rfl, frzs_flatW, keysOkW⟩
theorem isW_frz {L : Wl} {X : D} (h : IsW L X) : frz X = dictW false L := by
  obtain ⟨o, xs, rfl, h1, _⟩ := h
  rw [frz_nd, h1]; rfl
theorem memD_W {L : Wl} {X : D} {c : Cp} (h : IsW L X) : memD (cD c) X = some (findW L c).isSome := by
  obtain ⟨o, xs, rfl, h1, h2⟩ := h
  have k := kposW (L := L) (s := c)
  unfold memD
  dsimp only
  rw [if_pos h2, tnk_cD, Option.map_some]
  cases hk : kpos (nkL L) (nkC c) with
  | none => rw [hk] at k; simp at k; simp [k]
  | some j => rw [hk] at k; obtain ⟨v, k1, _⟩ := k; simp [k1]
theorem refD_W {o : Bool} {L : Wl} {c : Cp} {r : List Cp} (h : findW L c = some r) : refD (dictW o L) (cD c) = some (wD r, dictW o L) := by
  have k := kposW (L := L) (s := c)
  unfold dictW
  rw [refD_nd]
  unfold cpos
  dsimp only
  rw [if_pos keysOkW, tnk_cD, Option.bind_some]
  cases hk : kpos (nkL L) (nkC c) with
  | none => rw [hk] at k; simp at k; simp_all
  | some j =>
    rw [hk] at k
    obtain ⟨w, h1, h2, _⟩ := k
    obtain rfl : w = r := by simp_all
    cases o
    · simp [h2]
    · simp [h2, set_same h2]
@[simp] theorem frz_dW {o : Bool} {L : Wl} : frz (dictW o L) = dictW false L := isW_frz isW_dict
/-- the item alone: from the dict that is about to be handed out -/
theorem refD_out {L : Wl} {X : D} {c : Cp} {r : List Cp} (hX : IsW L X) (h : findW L c = some r) : ∃ X', refD X (cD c) = some (wD r, X') := by
  obtain ⟨o, xs, rfl, h1, h2⟩ := hX
  have k := kposW (L := L) (s := c)
  rw [refD_nd]
  unfold cpos
  dsimp only
  rw [if_pos h2, tnk_cD, Option.bind_some]
  cases hk : kpos (nkL L) (nkC c) with
  | none => rw [hk] at k; simp at k; simp_all
  | some j =>
    rw [hk] at k
    obtain ⟨w, k1, k2, _⟩ := k
    obtain rfl : w = r := by simp_all
    rw [← h1, frzs_at] at k2
    obtain ⟨d, k3, k4⟩ := Option.map_eq_some_iff.mp k2
    exact ⟨_, by simp [k3, k4]; rfl⟩
/-- put in, or put anew -/
def updW (L : Wl) (c : Cp) (r : List Cp) : Wl := if (findW L c).isSome then L.map fun p => if p.1 = c then (c, r) else p else L ++ [(c, r)]
theorem find_map {L : Wl} {c c2 : Cp} {r : List Cp} : findW (L.map fun p => if p.1 = c then (c, r) else p) c2 = if c = c2 then (findW L c).map fun _ => r else findW L c2 := by
  induction L with
  | nil => simp [findW]
  | cons p L ih =>
    rw [List.map_cons]
    by_cases h : p.1 = c
    · rw [if_pos h]
      by_cases h2 : c = c2
      · simp [findW, h, h2]
      · rw [if_neg h2]
        have e1 : findW ((c, r) :: L.map fun p => if p.1 = c then (c, r) else p) c2 = findW (L.map fun p => if p.1 = c then (c, r) else p) c2 := by simp [findW, h2]
        have h3 : ¬ p.1 = c2 := by rw [h]; exact h2
        have e2 : findW (p :: L) c2 = findW L c2 := by simp [findW, h3]
        rw [e1, ih, if_neg h2, e2]
    · rw [if_neg h]
      by_cases h3 : p.1 = c2
      · have : ¬ c = c2 := fun k => h (h3.trans k.symm)
        rw [if_neg this]
        simp [findW, h3]
      · have e1 : findW (p :: L.map fun p => if p.1 = c then (c, r) else p) c2 = findW (L.map fun p => if p.1 = c then (c, r) else p) c2 := by simp [findW, h3]
        have e2 : findW (p :: L) c2 = findW L c2 := by simp [findW, h3]
        have e3 : findW (p :: L) c = findW L c := by simp [findW, h]
        rw [e1, ih, e2, e3]
theorem find_upd {L : Wl} {c c2 : Cp} {r : List Cp} : findW (updW L c r) c2 = if c = c2 then some r else findW L c2 := by
  unfold updW
  cases h : findW L c with
  | some v =>
    rw [if_pos (by simp), find_map, h]
    rfl
  | none =>
    rw [if_neg (by simp)]
    unfold findW at h ⊢
    rw [List.find?_append]
    have h' := Option.map_eq_none_iff.mp h
    by_cases e : c = c2
    · subst e
      rw [h']; simp
    · rw [if_neg e]
      have : [(c, r)].find? (fun p => decide (p.1 = c2)) = none := by simp [e]
      rw [this]
      cases L.find? fun p => decide (p.1 = c2) <;> rfl
theorem keys_upd {L : Wl} {c : Cp} {r : List Cp} : (updW L c r).map (·.1) = if (findW L c).isSome then L.map (·.1) else L.map (·.1) ++ [c] := by
  unfold updW
  split
  · rw [List.map_map]
    refine List.map_congr_left fun p _ => ?_
    show (if p.1 = c then (c, r) else p).1 = p.1
    split
    · rename_i h; exact h.symm
    · rfl
  · simp
theorem nkL_map {L : Wl} {c : Cp} {r : List Cp} : nkL (L.map fun p => if p.1 = c then (c, r) else p) = nkL L := by
  unfold nkL
  rw [List.map_map]
  refine List.map_congr_left fun p _ => ?_
  show nkC (if p.1 = c then (c, r) else p).1 = nkC p.1
  split
  · rename_i h; rw [h]
  · rfl
theorem findW_none {L : Wl} {c : Cp} : findW L c = none ↔ c ∉ L.map (·.1) := by
  unfold findW
  rw [Option.map_eq_none_iff, List.find?_eq_none]
  constructor
  · intro h k
    obtain ⟨p, h1, h2⟩ := List.mem_map.mp k
    exact h p h1 (by simp [h2])
  · intro h p hp k
    exact h (List.mem_map.mpr ⟨p, hp, by simpa using k⟩)
theorem flat_set : ∀ {L : Wl} {j : Nat} {p : Cp × List Cp} {r : List Cp}, (L.map (·.1)).Nodup → L[j]? = some p → (flatW L).set (2 * j + 1) (wD r) = flatW (L.map fun q => if q.1 = p.1 then (p.1, r) else q)
  | [], _, _, _, _, h => by simp at h
  | q :: L, 0, p, r, nd, h => by
    simp at h
    subst h
    rw [List.map_cons] at nd
    have nin := (List.nodup_cons.mp nd).1
    have same : L.map (fun x => if x.1 = q.1 then (q.1, r) else x) = L := by
      conv => rhs; rw [← List.map_id L]
      refine List.map_congr_left fun x hx => ?_
      rw [if_neg fun k => nin (List.mem_map.mpr ⟨x, hx, k⟩)]
      rfl
    rw [List.map_cons, if_pos rfl, same, flatW_cons, flatW_cons]
    rfl
  | q :: L, j + 1, p, r, nd, h => by
    rw [List.map_cons] at nd
    have nin := (List.nodup_cons.mp nd).1
    have h' : L[j]? = some p := by simpa using h
    have ne : ¬ q.1 = p.1 := fun k => nin (by rw [k]; exact List.mem_map.mpr ⟨p, List.mem_of_getElem? h', rfl⟩)
    rw [List.map_cons, if_neg ne, flatW_cons, flatW_cons, ← flat_set (List.nodup_cons.mp nd).2 h']
    rw [show 2 * (j + 1) + 1 = (2 * j + 1) + 1 + 1 from by omega, List.set_cons_succ, List.set_cons_succ]
theorem setD_W {L : Wl} {c : Cp} {r : List Cp} (nd : (L.map (·.1)).Nodup) (hl : 2 * L.length < lim) : setD (.dn (nkL L)) (flatW L) (cD c) (wD r) = some (dictW true (updW L c r)) := by
  have h' := kposW (L := L) (s := c)
  unfold setD
  dsimp only
  rw [tnk_cD, Option.bind_some, if_pos ⟨keysOkW, by rw [flatW_len]; exact hl⟩]
  cases hk : kpos (nkL L) (nkC c) with
  | none =>
    rw [hk] at h'
    have h' : findW L c = none := h'
    unfold updW
    rw [h', if_neg (by simp)]
    simp [dictW, flatW]
  | some j =>
    rw [hk] at h'
    obtain ⟨w, h1, h2, p, h3, h4⟩ := h'
    subst h4
    unfold updW
    rw [h1, if_pos (by simp)]
    dsimp only
    rw [flat_set nd h3]
    unfold dictW
    rw [nkL_map]

/-! ### the law's own search -/
def mvs (cs : List Cp) (c : Cp) (e : Int) : List Cp := cs.filter fun c' => decide (oth c' e = oth c e)
theorem moves_is {cs : List Cp} {c : Cp} {e : Int} {o : Bool} (he : e = 0 ∨ e = 1) (hl : cs.length < 100) : F_law_moves [.nd .lst o (cs.map cD), cD c, .int e] = .ok (.nd .lst true ((mvs cs c e).map cD)) [none, none, none] := by
  have i0 : ixN 2 0 = some 0 := rfl
  have i1 : ixN 2 1 = some 1 := rfl
  have lc := lcL_flt (vs := [3]) (g := gN 3) (tt := tTst (eBin eqD (eIxN 3 (eBin subD (eC (.int 1)) (eN 2))) (eIxN 1 (eBin subD (eC (.int 1)) (eN 2))))) (el := eN 3) (base := ⟨[some (.nd .lst false (cs.map cD)), some (cD c), some (.int e), none], none⟩)
    (p := fun d => match d with | .nd _ _ [.int a, .int b] => decide (oth (a, b) e = oth c e) | _ => false) (y := fun d => d) (xs := cs.map cD) (acc := []) (fun d hd => by
      obtain ⟨c', _, rfl⟩ := List.mem_map.mp hd
      refine ⟨⟨[some (.nd .lst false (cs.map cD)), some (cD c), some (.int e), some (cD c')], none⟩, ⟨[some (.nd .lst false (cs.map cD)), some (cD c), some (.int e), some (cD c')], none⟩, by simp, ?_, fun _ => ⟨_, by simp; rfl, by simp⟩, fun _ => by simp⟩
      rcases he with rfl | rfl
      · simp [cD, i1, eqD_int, oth]
        rw [Bool.eq_iff_iff]; simp
      · simp [cD, i0, eqD_int, oth]
        rw [Bool.eq_iff_iff]; simp) (by simp [lim]; omega)
  rw [List.nil_append, List.map_id', List.filter_map] at lc
  have fl : (cs.filter ((fun d => match d with | .nd _ _ [.int a, .int b] => decide (oth (a, b) e = oth c e) | _ => false) ∘ cD)) = mvs cs c e := by
    unfold mvs
    congr 1
  rw [fl] at lc
  unfold F_law_moves B_law_moves
  simp [fDef]
  rw [lc]
  simp
theorem mvs_mem {cs : List Cp} {c c' : Cp} {e : Int} : c' ∈ mvs cs c e ↔ c' ∈ cs ∧ oth c' e = oth c e := by
  unfold mvs
  rw [List.mem_filter]
  simp
abbrev Cand := List (Cp × List Cp)
/-- the dict holds the least of the candidates for each couple -/
structure Grw (cs : List Cp) (n : Nat) (G : Wl) (cand : Cand) : Prop where
  nd : (G.map (·.1)).Nodup
  sub : ∀ k ∈ G.map (·.1), k ∈ cs
  len : ∀ p ∈ cand, p.2.length = n
  low : ∀ c r, findW G c = some r → (c, r) ∈ cand ∧ ∀ r2, (c, r2) ∈ cand → leW r r2
  has : ∀ c r, (c, r) ∈ cand → ∃ r2, findW G c = some r2
theorem Grw.upd {cs : List Cp} {n : Nat} {G : Wl} {cand : Cand} {c : Cp} {r : List Cp} (h : Grw cs n G cand) (hc : c ∈ cs) (hr : r.length = n) (hn : ∀ r0, findW G c = some r0 → ¬ leW r0 r) : Grw cs n (updW G c r) (cand ++ [(c, r)]) where
  nd := by
    rw [keys_upd]
    split
    · exact h.nd
    · rename_i k
      rw [List.nodup_append]
      refine ⟨h.nd, by simp, fun a ha b hb => ?_⟩
      have : b = c := by simpa using hb
      rw [this]
      rintro rfl
      exact findW_none.mp (by simpa using k) ha
  sub := fun k hk => by
    rw [keys_upd] at hk
    split at hk
    · exact h.sub k hk
    · rcases List.mem_append.mp hk with q | q
      · exact h.sub k q
      · have : k = c := by simpa using q
        rw [this]; exact hc
  len := fun p hp => by
    rcases List.mem_append.mp hp with q | q
    · exact h.len p q
    · have : p = (c, r) := by simpa using q
      rw [this]; exact hr
  low := fun c2 r2 h2 => by
    rw [find_upd] at h2
    by_cases e : c = c2
    · subst e
      rw [if_pos rfl] at h2
      cases h2
      refine ⟨by simp, fun r3 h3 => ?_⟩
      rcases List.mem_append.mp h3 with q | q
      · obtain ⟨r0, f0⟩ := h.has c r3 q
        have l0 := h.low c r0 f0
        have nl := hn r0 f0
        have len0 : r0.length = n := h.len _ l0.1
        rcases leW_total (a := r0) (b := r) (by omega) with k | k
        · exact absurd k nl
        · exact leW_trans k (l0.2 r3 q)
      · have : r3 = r := by simpa using q
        rw [this]; exact leW_refl _
    · rw [if_neg e] at h2
      have l := h.low c2 r2 h2
      refine ⟨List.mem_append_left _ l.1, fun r3 h3 => ?_⟩
      rcases List.mem_append.mp h3 with q | q
      · exact l.2 r3 q
      · have : c2 = c ∧ r3 = r := by simpa using q
        exact absurd this.1.symm e
  has := fun c2 r2 h2 => by
    rw [find_upd]
    by_cases e : c = c2
    · exact ⟨r, if_pos e⟩
    · rw [if_neg e]
      rcases List.mem_append.mp h2 with q | q
      · exact h.has c2 r2 q
      · have : c2 = c ∧ r2 = r := by simpa using q
        exact absurd this.1.symm e
theorem Grw.same {cs : List Cp} {n : Nat} {G : Wl} {cand : Cand} {c : Cp} {r r0 : List Cp} (h : Grw cs n G cand) (hr : r.length = n) (h0 : findW G c = some r0) (hn : leW r0 r) : Grw cs n G (cand ++ [(c, r)]) where
  nd := h.nd
  sub := h.sub
  len := fun p hp => by
    rcases List.mem_append.mp hp with q | q
    · exact h.len p q
    · have : p = (c, r) := by simpa using q
      rw [this]; exact hr
  low := fun c2 r2 h2 => by
    have l := h.low c2 r2 h2
    refine ⟨List.mem_append_left _ l.1, fun r3 h3 => ?_⟩
    rcases List.mem_append.mp h3 with q | q
    · exact l.2 r3 q
    · have e : c2 = c ∧ r3 = r := by simpa using q
      obtain ⟨rfl, rfl⟩ := e
      rw [h0] at h2
      cases h2
      exact hn
  has := fun c2 r2 h2 => by
    rcases List.mem_append.mp h2 with q | q
    · exact h.has c2 r2 q
    · have e : c2 = c ∧ r2 = r := by simpa using q
      obtain ⟨rfl, rfl⟩ := e
      exact ⟨r0, h0⟩
theorem Grw.small {cs : List Cp} {n : Nat} {G : Wl} {cand : Cand} (h : Grw cs n G cand) : G.length ≤ cs.length := by
  have := nodup_len h.nd h.sub
  simpa using this
abbrev fV (T X2 : D) (rest : Cp) (first : Int) (L : Wl) (m still turn : Int) (G : Wl) (x9 x10 x11 : Option D) : En := ⟨[some T, some (cD rest), some X2, some (.int first), some (dictW false L), some (.int m), some (.int still), some (.int turn), some (dictW true G), x9, x10, x11], none⟩
abbrev bV3 : FS := fSeq (fAsg (gN 11) (eBin addD (eIxN 4 (eN 9)) (eLst (aCons (eN 10) aNil)))) (fIf (tOr (tTst (eInL true (eN 10) (lN 8))) (tTst (eBin ltAD (eN 11) (eIxN 8 (eN 10))))) (fSetN 8 (eN 10) (eN 11)) fNext)
theorem law_in {cs : List Cp} {T X2 : D} {rest c c' : Cp} {first m still turn : Int} {L G : Wl} {cand : Cand} {r : List Cp} {n : Nat} {x11 : Option D} (h : Grw cs n G cand) (hl : cs.length < 100) (hn : n < 1000) (fc : findW L c = some r) (hr : (r ++ [c']).length = n) (hc : c' ∈ cs) :
    ∃ G', bV3 (fV T X2 rest first L m still turn G (some (cD c)) (some (cD c')) x11) = .nx (fV T X2 rest first L m still turn G' (some (cD c)) (some (cD c')) (some (wD (r ++ [c'])))) ∧ Grw cs n G' (cand ++ [(c', r ++ [c'])]) := by
  have sm := h.small
  have lr : r.length + 1 = n := by simpa using hr
  have ad : addD (wD r) (.nd .lst false [cD c']) = some (.nd .lst true ((r ++ [c']).map cD)) := by
    unfold wD
    rw [addD_lst, if_pos (by simp [lim]; omega), List.map_append]
    rfl
  have st := setD_W (c := c') (r := r ++ [c']) h.nd (by simp [lim]; omega)
  have nw : D.nd .lst false ((r ++ [c']).map cD) = wD (r ++ [c']) := rfl
  have md := memD_W (c := c') (isW_dict (o := true) (L := G))
  have m11 : frzs ((r ++ [c']).map cD) = (r ++ [c']).map cD := frzs_cD
  cases hg : findW G c' with
  | none =>
    refine ⟨updW G c' (r ++ [c']), ?_, h.upd hc hr (fun r0 q => by rw [hg] at q; cases q)⟩
    rw [hg] at md
    have e1 : fAsg (gN 11) (eBin addD (eIxN 4 (eN 9)) (eLst (aCons (eN 10) aNil))) (fV T X2 rest first L m still turn G (some (cD c)) (some (cD c')) x11) = .nx (fV T X2 rest first L m still turn G (some (cD c)) (some (cD c')) (some (.nd .lst true ((r ++ [c']).map cD)))) := by
      simp [-List.map_append, lim, refD_W fc, ad]
    unfold bV3 fSeq
    rw [e1]
    simp [-List.map_append, lN, md, nw]
    simp only [dictW] at st ⊢
    simp [-List.map_append, st]
    exact ⟨rfl, rfl⟩
  | some r0 =>
    have e1 : fAsg (gN 11) (eBin addD (eIxN 4 (eN 9)) (eLst (aCons (eN 10) aNil))) (fV T X2 rest first L m still turn G (some (cD c)) (some (cD c')) x11) = .nx (fV T X2 rest first L m still turn G (some (cD c)) (some (cD c')) (some (.nd .lst true ((r ++ [c']).map cD)))) := by
      simp [-List.map_append, lim, refD_W fc, ad]
    rw [hg] at md
    have l0 : r0.length = n := h.len _ (h.low c' r0 hg).1
    obtain ⟨k, k1, k2⟩ := ltAD_cD (o := false) (o' := false) (a := r ++ [c']) (b := r0) (by omega)
    have k1 : ltAD (wD (r ++ [c'])) (wD r0) = some (.bl k) := k1
    unfold bV3 fSeq
    rw [e1]
    by_cases lt : leW r0 (r ++ [c'])
    · have kf : k = false := by
        cases k with
        | false => rfl
        | true => exact absurd lt (k2.mp rfl)
      subst kf
      refine ⟨G, ?_, h.same hr hg lt⟩
      simp [-List.map_append, lN, md, nw, refD_W hg, k1]
    · have kt : k = true := k2.mpr lt
      subst kt
      refine ⟨updW G c' (r ++ [c']), ?_, h.upd hc hr (fun r1 q => by rw [hg] at q; cases q; exact lt)⟩
      simp [-List.map_append, lN, md, nw, refD_W hg, k1]
      simp only [dictW] at st ⊢
      simp [-List.map_append, st]
      exact ⟨rfl, rfl⟩
abbrev bV2 : FS := fFor (iE (eCall 3 F_law_moves (aCons (eN 0) (aCons (eN 9) (aCons (eN 5) aNil))))) (gN 10) bV3
theorem law_mid {cs : List Cp} {T X2 : D} {rest c : Cp} {first m still turn : Int} {L : Wl} {r : List Cp} {n : Nat} (hl : cs.length < 100) (hn : n < 1000) (fc : findW L c = some r) (hr : r.length + 1 = n) : ∀ (ts : List Cp), (∀ c' ∈ ts, c' ∈ cs) → ∀ (G : Wl) (cand : Cand) (x10 x11 : Option D), Grw cs n G cand →
    ∃ G' y10 y11, forL (gN 10) bV3 (ts.map cD) (fV T X2 rest first L m still turn G (some (cD c)) x10 x11) = .nx (fV T X2 rest first L m still turn G' (some (cD c)) y10 y11) ∧ Grw cs n G' (cand ++ ts.map fun c' => (c', r ++ [c'])) := by
  intro ts
  induction ts with
  | nil => intro _ G cand x10 x11 h; exact ⟨G, x10, x11, rfl, by simpa using h⟩
  | cons c' ts ih =>
    intro hts G cand x10 x11 h
    obtain ⟨G1, e1, h1⟩ := law_in (T := T) (X2 := X2) (rest := rest) (c := c) (first := first) (m := m) (still := still) (turn := turn) (L := L) (x11 := x11) h hl hn fc (c' := c') (by simpa using hr) (hts c' List.mem_cons_self)
    obtain ⟨G2, y10, y11, e2, h2⟩ := ih (fun d hd => hts d (List.mem_cons_of_mem _ hd)) G1 _ (some (cD c')) (some (wD (r ++ [c']))) h1
    refine ⟨G2, y10, y11, ?_, by simpa using h2⟩
    rw [List.map_cons, forL_step (by simp) e1, e2]
theorem law_out {cs : List Cp} {X2 : D} {rest : Cp} {first m still turn : Int} {L : Wl} {n : Nat} (hl : cs.length < 100) (hn : n < 1000) (hm : m = 0 ∨ m = 1) : ∀ (ps : List (Cp × List Cp)), (∀ p ∈ ps, findW L p.1 = some p.2 ∧ p.2.length + 1 = n) → ∀ (G : Wl) (cand : Cand) (x9 x10 x11 : Option D), Grw cs n G cand →
    ∃ G' y9 y10 y11, forL (gN 9) bV2 (ps.map fun p => cD p.1) (fV (.nd .lst false (cs.map cD)) X2 rest first L m still turn G x9 x10 x11) = .nx (fV (.nd .lst false (cs.map cD)) X2 rest first L m still turn G' y9 y10 y11) ∧ Grw cs n G' (cand ++ ps.flatMap fun p => (mvs cs p.1 m).map fun c' => (c', p.2 ++ [c'])) := by
  intro ps
  induction ps with
  | nil => intro _ G cand x9 x10 x11 h; exact ⟨G, x9, x10, x11, rfl, by simpa using h⟩
  | cons p ps ih =>
    intro hps G cand x9 x10 x11 h
    obtain ⟨k1, k2⟩ := hps p List.mem_cons_self
    have mi := moves_is (cs := cs) (c := p.1) (o := false) hm hl
    obtain ⟨G1, y10, y11, e1, h1⟩ := law_mid (T := .nd .lst false (cs.map cD)) (X2 := X2) (rest := rest) (first := first) (m := m) (still := still) (turn := turn) hl hn k1 k2 (mvs cs p.1 m) (fun c' hc => (mvs_mem.mp hc).1) G cand x10 x11 h
    obtain ⟨G2, z9, z10, z11, e2, h2⟩ := ih (fun q hq => hps q (List.mem_cons_of_mem _ hq)) G1 _ (some (cD p.1)) y10 y11 h1
    refine ⟨G2, z9, z10, z11, ?_, by simpa using h2⟩
    rw [List.map_cons, forL_step (e1 := fV (.nd .lst false (cs.map cD)) X2 rest first L m still turn G (some (cD p.1)) x10 x11) (by simp) ?_, e2]
    simp [mi]
    exact e1
/-- the dict at turn t -/
structure WIs (cs : List Cp) (first : Int) (rest : Cp) (t : Nat) (L : Wl) : Prop where
  nd : (L.map (·.1)).Nodup
  low : ∀ c ws, findW L c = some ws → ∃ r, ws = rest :: r ∧ Least cs first rest t c r
  has : ∀ c, KS cs first rest t c → ∃ ws, findW L c = some ws
theorem findW_mem {L : Wl} {c : Cp} {r : List Cp} (h : findW L c = some r) : (c, r) ∈ L := by
  unfold findW at h
  obtain ⟨p, h1, h2⟩ := Option.map_eq_some_iff.mp h
  have h3 := List.find?_some h1
  have h4 := List.mem_of_find?_eq_some h1
  simp at h3
  rw [← h3, ← h2]
  exact h4
theorem findW_of {L : Wl} (nd : (L.map (·.1)).Nodup) {p : Cp × List Cp} (h : p ∈ L) : findW L p.1 = some p.2 := by
  induction L with
  | nil => cases h
  | cons q L ih =>
    rw [List.map_cons] at nd
    have nin := (List.nodup_cons.mp nd).1
    rcases List.mem_cons.mp h with rfl | h
    · simp [findW]
    · have ne : ¬ q.1 = p.1 := fun k => nin (by rw [k]; exact List.mem_map.mpr ⟨p, h, rfl⟩)
      have e : findW (q :: L) p.1 = findW L p.1 := by simp [findW, ne]
      rw [e, ih (List.nodup_cons.mp nd).2 h]
theorem WIs.key {cs : List Cp} {first : Int} {rest : Cp} {t : Nat} {L : Wl} (h : WIs cs first rest t L) (c : Cp) : c ∈ L.map (·.1) ↔ KS cs first rest t c := by
  constructor
  · intro hc
    cases e : findW L c with
    | none => exact absurd hc (findW_none.mp e)
    | some ws =>
      obtain ⟨r, _, l1, l2, _⟩ := h.low c ws e
      exact ⟨r, l1, l2⟩
  · intro hc
    obtain ⟨ws, e⟩ := h.has c hc
    exact List.mem_map.mpr ⟨_, findW_mem e, rfl⟩
theorem WIs.next {cs : List Cp} {first : Int} {rest : Cp} {t : Nat} {L G : Wl} (h : WIs cs first rest t L) (g : Grw cs (t + 2) G (L.flatMap fun p => (mvs cs p.1 (mv first t)).map fun c' => (c', p.2 ++ [c']))) : WIs cs first rest (t + 1) G where
  nd := g.nd
  low := fun c' ws hw => by
    obtain ⟨k1, k2⟩ := g.low c' ws hw
    obtain ⟨p, hp, q⟩ := List.mem_flatMap.mp k1
    obtain ⟨c2, h2, e⟩ := List.mem_map.mp q
    have e1 : c2 = c' := congrArg Prod.fst e
    subst e1
    have e2 : p.2 ++ [c2] = ws := congrArg Prod.snd e
    obtain ⟨m1, m2⟩ := mvs_mem.mp h2
    obtain ⟨r, er, l1, l2, l3⟩ := h.low p.1 p.2 (findW_of h.nd hp)
    refine ⟨r ++ [c2], by rw [← e2, er]; rfl, by simp [l1], wk_snoc.mpr ⟨rfl, p.1, l2, m1, by rw [l1]; exact m2⟩, fun r2' n2 w2 => ?_⟩
    obtain ⟨r2, x, rfl, l0⟩ := snoc_of n2
    obtain ⟨rfl, c, w3, w4, w5⟩ := wk_snoc.mp w2
    rw [l0] at w5
    obtain ⟨wc, fc⟩ := h.has c ⟨r2, l0, w3⟩
    obtain ⟨rc, ec, n1, n3, n4⟩ := h.low c wc fc
    have inC : (x, wc ++ [x]) ∈ L.flatMap fun p => (mvs cs p.1 (mv first t)).map fun c' => (c', p.2 ++ [c']) :=
      List.mem_flatMap.mpr ⟨_, findW_mem fc, List.mem_map.mpr ⟨x, mvs_mem.mpr ⟨w4, w5⟩, rfl⟩⟩
    have le := k2 _ inC
    rw [← e2, er, ec] at le
    have le' : leW (r ++ [x]) (rc ++ [x]) := by
      rcases le with q | ⟨_, q⟩
      · exact (ltC_irrefl q).elim
      · exact q
    exact leW_trans le' (leW_snoc (by omega) (n4 r2 l0 w3))
  has := fun c' hc => by
    obtain ⟨m1, c, hc, m2⟩ := ks_succ.mp hc
    obtain ⟨wc, fc⟩ := h.has c hc
    exact g.has c' (wc ++ [c']) (List.mem_flatMap.mpr ⟨_, findW_mem fc, List.mem_map.mpr ⟨c', mvs_mem.mpr ⟨m1, m2⟩, rfl⟩⟩)
theorem same_keys {α : Type} [DecidableEq α] {xs ys : List α} (nd : xs.Nodup) (sub : ∀ x ∈ xs, x ∈ ys) (le : ys.length ≤ xs.length) : ∀ y ∈ ys, y ∈ xs := fun y hy => by
  by_cases h : y ∈ xs
  · exact h
  · have := nodup_len (xs := y :: xs) (ys := ys) (List.nodup_cons.mpr ⟨h, nd⟩) fun z hz => by
      rcases List.mem_cons.mp hz with rfl | hz
      · exact hy
      · exact sub z hz
    rw [List.length_cons] at this
    omega
/-- what the law's search answers -/
def LawIs (cs : List Cp) (first : Int) (rest goal : Cp) (d : D) : Prop := (d = .non ∧ ∀ k, ¬ KS cs first rest k goal) ∨ ∃ t r, d = wD (rest :: r) ∧ Least cs first rest t goal r ∧ (∀ k < t, ¬ KS cs first rest k goal) ∧ t ≤ 2 * cs.length + 3
abbrev fH (T X4 : D) (rest goal : Cp) (first m still : Int) (x7 x8 x9 x10 x11 : Option D) : En := ⟨[some T, some (cD rest), some (cD goal), some (.int first), some X4, some (.int m), some (.int still), x7, x8, x9, x10, x11], none⟩
abbrev bV : FS := fSeq (fIf (tTst (eInL false (eN 2) (lN 4))) (fRet (eIxN 4 (eN 2))) fNext) (fSeq (fAsg (gN 8) eDn0) (fSeq (fFor (iK (eN 4)) (gN 9) bV2) (fSeq (fAsg (gN 6) (eIf (tTst (eBin eqD (eCallB lenND (aIo 8 aNil)) (eCallB lenND (aIo 4 aNil)))) (eBin addD (eN 6) (eC (.int 1))) (eC (.int 0)))) (fSeq (fIf (tTst (eBin eqD (eN 6) (eC (.int 2)))) (fRet (eC .non)) fNext) (fSeq (fAsg (gN 4) (eN 8)) (fAsg (gN 5) (eBin subD (eC (.int 1)) (eN 5))))))))
theorem lenND_W {o : Bool} {L : Wl} : lenND [dictW o L] = some (.int L.length) := by
  unfold lenND dictW
  simp
theorem turn_found {cs : List Cp} {X4 : D} {rest goal : Cp} {first m still turn : Int} {x8 x9 x10 x11 : Option D} {L : Wl} {ws : List Cp} (hX : IsW L X4) (hg : findW L goal = some ws) : ∃ e', bV (fH (.nd .lst false (cs.map cD)) X4 rest goal first m still (some (.int turn)) x8 x9 x10 x11) = .rt (wD ws) e' := by
  have md := memD_W (c := goal) hX
  obtain ⟨X', rf⟩ := refD_out hX hg
  rw [hg] at md
  refine ⟨⟨[some (.nd .lst false (cs.map cD)), some (cD rest), some (cD goal), some (.int first), some X', some (.int m), some (.int still), some (.int turn), x8, x9, x10, x11], none⟩, ?_⟩
  unfold bV
  simp [lN, md, rf]
theorem turn_on {cs : List Cp} {X4 : D} {rest goal : Cp} {first still turn : Int} {x8 x9 x10 x11 : Option D} {L : Wl} {t : Nat} (hX : IsW L X4) (hl : cs.length < 100) (ht : t < 900) (hf : first = 0 ∨ first = 1) (W : WIs cs first rest t L) (hg : findW L goal = none) : ∃ G y8 y9 y10 y11, WIs cs first rest (t + 1) G ∧ G.length ≤ cs.length ∧
    ((if (G.length : Int) = (L.length : Int) then still + 1 else 0) = 2 ∧ (∃ e', bV (fH (.nd .lst false (cs.map cD)) X4 rest goal first (mv first t) still (some (.int turn)) x8 x9 x10 x11) = .rt .non e') ∨
    (if (G.length : Int) = (L.length : Int) then still + 1 else 0) ≠ 2 ∧ bV (fH (.nd .lst false (cs.map cD)) X4 rest goal first (mv first t) still (some (.int turn)) x8 x9 x10 x11) = .nx (fH (.nd .lst false (cs.map cD)) (dictW false G) rest goal first (1 - mv first t) (if (G.length : Int) = (L.length : Int) then still + 1 else 0) (some (.int turn)) y8 y9 y10 y11)) := by
  have md := memD_W (c := goal) hX
  rw [hg] at md
  have fz := isW_frz hX
  have start : Grw cs (t + 2) [] [] := ⟨by simp, fun k hk => (by cases hk), fun p hp => (by cases hp), fun c r h => (by cases h), fun c r h => (by cases h)⟩
  obtain ⟨G, y9, y10, y11, e1, g⟩ := law_out (cs := cs) (X2 := cD goal) (rest := rest) (first := first) (m := mv first t) (still := still) (turn := turn) (L := L) (n := t + 2) hl (by omega) (mv_01 hf t) L (fun p hp => by
    have f := findW_of W.nd hp
    refine ⟨f, ?_⟩
    obtain ⟨r, er, l1, _⟩ := W.low p.1 p.2 f
    rw [er]; simp [l1]) [] [] x9 x10 x11 start
  rw [List.nil_append] at g
  have ko : keysOfD (dictW false L) = some (L.map fun p => cD p.1) := by
    unfold keysOfD dictW
    dsimp only
    rw [if_pos keysOkW, keysOfW]
  have k8 : IsW G (dictW true G) := isW_dict
  refine ⟨G, some (dictW false G), y9, y10, y11, W.next g, g.small, ?_⟩
  have e1' : forL (gN 9) bV2 (L.map fun p => cD p.1) ⟨[some (.nd .lst false (cs.map cD)), some (cD rest), some (cD goal), some (.int first), some (dictW false L), some (.int (mv first t)), some (.int still), some (.int turn), some (.nd (.dn []) true []), x9, x10, x11], none⟩ = .nx ⟨[some (.nd .lst false (cs.map cD)), some (cD rest), some (cD goal), some (.int first), some (dictW false L), some (.int (mv first t)), some (.int still), some (.int turn), some (dictW true G), y9, y10, y11], none⟩ := e1
  generalize hs : (if (G.length : Int) = (L.length : Int) then still + 1 else 0) = s'
  have e4 : fAsg (gN 6) (eIf (tTst (eBin eqD (eCallB lenND (aIo 8 aNil)) (eCallB lenND (aIo 4 aNil)))) (eBin addD (eN 6) (eC (.int 1))) (eC (.int 0))) ⟨[some (.nd .lst false (cs.map cD)), some (cD rest), some (cD goal), some (.int first), some (dictW false L), some (.int (mv first t)), some (.int still), some (.int turn), some (dictW true G), y9, y10, y11], none⟩ = .nx ⟨[some (.nd .lst false (cs.map cD)), some (cD rest), some (cD goal), some (.int first), some (dictW false L), some (.int (mv first t)), some (.int s'), some (.int turn), some (dictW true G), y9, y10, y11], none⟩ := by
    rw [← hs]
    simp [lenND_W, eqD_int]
  have h1 : fIf (tTst (eInL false (eN 2) (lN 4))) (fRet (eIxN 4 (eN 2))) fNext (fH (.nd .lst false (cs.map cD)) X4 rest goal first (mv first t) still (some (.int turn)) x8 x9 x10 x11) = .nx (fH (.nd .lst false (cs.map cD)) X4 rest goal first (mv first t) still (some (.int turn)) x8 x9 x10 x11) := by
    simp [lN, md]
  have h2 : fAsg (gN 8) eDn0 (fH (.nd .lst false (cs.map cD)) X4 rest goal first (mv first t) still (some (.int turn)) x8 x9 x10 x11) = .nx (fH (.nd .lst false (cs.map cD)) X4 rest goal first (mv first t) still (some (.int turn)) (some (.nd (.dn []) true [])) x9 x10 x11) := by
    simp
  have h3 : fFor (iK (eN 4)) (gN 9) bV2 (fH (.nd .lst false (cs.map cD)) X4 rest goal first (mv first t) still (some (.int turn)) (some (.nd (.dn []) true [])) x9 x10 x11) = .nx ⟨[some (.nd .lst false (cs.map cD)), some (cD rest), some (cD goal), some (.int first), some (dictW false L), some (.int (mv first t)), some (.int still), some (.int turn), some (dictW true G), y9, y10, y11], none⟩ := by
    simp [fz, ko, e1']
  have pre : bV (fH (.nd .lst false (cs.map cD)) X4 rest goal first (mv first t) still (some (.int turn)) x8 x9 x10 x11) = fSeq (fIf (tTst (eBin eqD (eN 6) (eC (.int 2)))) (fRet (eC .non)) fNext) (fSeq (fAsg (gN 4) (eN 8)) (fAsg (gN 5) (eBin subD (eC (.int 1)) (eN 5)))) ⟨[some (.nd .lst false (cs.map cD)), some (cD rest), some (cD goal), some (.int first), some (dictW false L), some (.int (mv first t)), some (.int s'), some (.int turn), some (dictW true G), y9, y10, y11], none⟩ := by
    unfold bV
    rw [fSeq_ap, h1, So.sq_nx, fSeq_ap, h2, So.sq_nx, fSeq_ap, h3, So.sq_nx, fSeq_ap, e4, So.sq_nx]
  rw [pre]
  by_cases q : s' = 2
  · refine .inl ⟨q, ⟨[some (.nd .lst false (cs.map cD)), some (cD rest), some (cD goal), some (.int first), some (dictW false L), some (.int (mv first t)), some (.int 2), some (.int turn), some (dictW true G), y9, y10, y11], none⟩, ?_⟩
    simp [q, eqD_int]
  · refine .inr ⟨q, ?_⟩
    simp [q, eqD_int]
theorem law_loop {cs : List Cp} {rest goal : Cp} {first : Int} (hl : cs.length < 100) (hf : first = 0 ∨ first = 1) (hr : rest ∈ cs) : ∀ (xs : List D), (∀ x ∈ xs, ∃ i, x = .int i) → ∀ (t : Nat) (L : Wl) (X4 : D) (still : Int) (x7 x8 x9 x10 x11 : Option D), t + xs.length = 2 * cs.length + 3 → IsW L X4 → WIs cs first rest t L → L.length ≤ cs.length → (still = 0 ∨ still = 1) → (still = 1 → ∃ t0, t = t0 + 1 ∧ ∀ c, KS cs first rest t c ↔ KS cs first rest t0 c) →
    (∀ k < t, ¬ KS cs first rest k goal) → (t : Int) + 2 ≤ 2 * (L.length : Int) + still →
    ∃ d e', forL (gN 7) bV xs (fH (.nd .lst false (cs.map cD)) X4 rest goal first (mv first t) still x7 x8 x9 x10 x11) = .rt d e' ∧ LawIs cs first rest goal d := by
  intro xs
  induction xs with
  | nil =>
    intro _ t L X4 still x7 x8 x9 x10 x11 hN _ _ hL h01 _ _ hb
    simp at hN
    omega
  | cons x xs ih =>
    intro hxs t L X4 still x7 x8 x9 x10 x11 hN hX W hL h01 hst hno hb
    obtain ⟨i, rfl⟩ := hxs x List.mem_cons_self
    rw [List.length_cons] at hN
    have g7 : gN 7 (.int i) (fH (.nd .lst false (cs.map cD)) X4 rest goal first (mv first t) still x7 x8 x9 x10 x11) = some (fH (.nd .lst false (cs.map cD)) X4 rest goal first (mv first t) still (some (.int i)) x8 x9 x10 x11) := by simp
    cases hg : findW L goal with
    | some ws =>
      obtain ⟨e', h⟩ := turn_found (cs := cs) (rest := rest) (first := first) (m := mv first t) (still := still) (turn := i) (x8 := x8) (x9 := x9) (x10 := x10) (x11 := x11) hX hg
      obtain ⟨r, rfl, l⟩ := W.low goal ws hg
      refine ⟨_, e', ?_, .inr ⟨t, r, rfl, l, hno, by omega⟩⟩
      rw [forL_cons, g7]
      dsimp only
      rw [h]
    | none =>
      have nk : ¬ KS cs first rest t goal := fun k => by obtain ⟨ws, q⟩ := W.has goal k; rw [hg] at q; cases q
      have hno' : ∀ k < t + 1, ¬ KS cs first rest k goal := fun k hk => by
        by_cases e : k = t
        · subst e; exact nk
        · exact hno k (by omega)
      obtain ⟨G, y8, y9, y10, y11, W', gl, alt⟩ := turn_on (cs := cs) (rest := rest) (goal := goal) (still := still) (turn := i) (x8 := x8) (x9 := x9) (x10 := x10) (x11 := x11) hX hl (by omega) hf W hg
      have subK : ∀ c ∈ L.map (·.1), c ∈ G.map (·.1) := fun c hc => (W'.key c).mpr (ks_mono hr ((W.key c).mp hc))
      have le := nodup_len W.nd subK
      rw [List.length_map, List.length_map] at le
      have eqK : G.length = L.length → ∀ c, KS cs first rest (t + 1) c ↔ KS cs first rest t c := fun e c => by
        rw [← W'.key, ← W.key]
        exact ⟨same_keys W.nd subK (by rw [List.length_map, List.length_map]; omega) c, subK c⟩
      have two : ∃ s' : Int, (if (G.length : Int) = (L.length : Int) then still + 1 else 0) = s' ∧ ((G.length = L.length ∧ s' = still + 1) ∨ (L.length + 1 ≤ G.length ∧ s' = 0)) := by
        by_cases e : G.length = L.length
        · exact ⟨still + 1, if_pos (by omega), .inl ⟨e, rfl⟩⟩
        · exact ⟨0, if_neg (by omega), .inr ⟨by omega, rfl⟩⟩
      obtain ⟨s', es, two⟩ := two
      rw [es] at alt
      clear es
      rcases alt with ⟨q, e', h⟩ | ⟨q, h⟩
      · refine ⟨.non, e', ?_, .inl ⟨rfl, ?_⟩⟩
        · rw [forL_cons, g7]
          dsimp only
          rw [h]
        · have eq : G.length = L.length := by omega
          have s1 : still = 1 := by omega
          obtain ⟨t0, rfl, k0⟩ := hst s1
          have k1 := eqK eq
          have fix := ks_fix (cs := cs) (first := first) (rest := rest) (t := t0) k0 (fun c => (k1 c).trans (k0 c))
          intro k hk
          by_cases e : k < t0
          · exact hno k (by omega) hk
          · have := (fix (k - t0) goal).mp (by rw [show t0 + (k - t0) = k from by omega]; exact hk)
            exact hno t0 (by omega) this
      · rw [show 1 - mv first t = mv first (t + 1) from rfl] at h
        clear hst
        obtain ⟨d, e', h2, h3⟩ := ih (fun y hy => hxs y (List.mem_cons_of_mem _ hy)) (t + 1) G (dictW false G) s' (some (.int i)) y8 y9 y10 y11 (by omega) isW_dict W' gl (by omega) (fun s1 => ⟨t, rfl, eqK (by omega)⟩) hno' (by rw [Int.natCast_add]; omega)
        refine ⟨d, e', ?_, h3⟩
        rw [forL_step g7 h, h2]
theorem law_walk_is {cs : List Cp} {rest goal : Cp} {first : Int} (hl : cs.length < 100) (hf : first = 0 ∨ first = 1) (hr : rest ∈ cs) : ∃ d, F_law_walk [.nd .lst false (cs.map cD), cD rest, cD goal, .int first] = .ok d [none, none, none, none] ∧ LawIs cs first rest goal d := by
  have dd : dispD [cD rest, .nd .lst true [cD rest]] = some (.nd (.dn [nkC rest]) true [cD rest, .nd .lst true [cD rest]]) := by
    have f0 : (cD rest).isF = true := rfl
    simp [dispD, nkeys, f0]
  have hX : IsW [(rest, [rest])] (.nd (.dn [nkC rest]) true [cD rest, .nd .lst true [cD rest]]) := ⟨true, _, rfl, by simp [flatW, wD], by simp [keysOk]⟩
  have W : WIs cs first rest 0 [(rest, [rest])] := ⟨by simp, fun c ws h => by
    have := findW_mem h
    simp at this
    obtain ⟨rfl, rfl⟩ := this
    exact ⟨[], rfl, rfl, rfl, fun _ _ _ => trivial⟩, fun c h => by
    rw [ks_zero.mp h]
    exact ⟨[rest], by simp [findW]⟩⟩
  have pos : 0 < cs.length := List.length_pos_of_mem hr
  obtain ⟨d, e', h1, h2⟩ := law_loop (goal := goal) hl hf hr (rngD 0 (2 * (cs.length : Int) + 3).toNat) (fun x hx => by
    obtain ⟨i, _, rfl⟩ := List.mem_map.mp hx
    exact ⟨_, rfl⟩) 0 [(rest, [rest])] _ 0 none none none none none (by simp [rngD]; omega) hX W (by simp; omega) (.inl rfl) (fun h => by omega) (fun k hk => by omega) (by simp)
  refine ⟨d, ?_, h2⟩
  have m1 : mulOk 2 (cs.length : Int) = true := mulOk_60 (by decide) (by omega)
  have r1 : rngA1 [.int (2 * (cs.length : Int) + 3)] = some (rngD 0 (2 * (cs.length : Int) + 3).toNat) := rngA1_ok (by omega) (by omega)
  unfold F_law_walk B_law_walk
  have h1' : forL (gN 7) bV (rngD 0 (2 * (cs.length : Int) + 3).toNat) ⟨[some (.nd .lst false (cs.map cD)), some (cD rest), some (cD goal), some (.int first), some (.nd (.dn [nkC rest]) true [cD rest, .nd .lst true [cD rest]]), some (.int first), some (.int 0), none, none, none, none, none], none⟩ = .rt d e' := h1
  simp [fDef, lim, dd, m1, r1, -rngA1_ok]
  rw [h1']
  simp
end Lw

set_option Elab.async false
set_option linter.all false
set_option maxRecDepth 100000
set_option maxHeartbeats 1000000
/-! == of data. -/
namespace Lw
open PySem L2 Bx
/-- data that == looks through, without truth values, at most n levels -/
def okQ : Nat → D → Bool
  | 0, _ => false
  | n + 1, d => match d with
    | .non => true
    | .int _ => true
    | .str x => PyData.strOk x
    | .nd .lst _ xs => xs.all (okQ n)
    | .nd .tup _ xs => xs.all (okQ n)
    | _ => false
theorem pyds_map : ∀ xs : List D, pyds xs = xs.map pyd
  | [] => rfl
  | x :: xs => by rw [List.map_cons, ← pyds_map xs]; rfl
theorem okQ_eqOk : ∀ {n : Nat} {d : D}, okQ n d = true → eqOk d = true
  | 0, _, h => by simp [okQ] at h
  | n + 1, d, h => by
    have all : ∀ xs : List D, xs.all (okQ n) = true → eqOks xs = true := fun xs => by
      induction xs with
      | nil => intro _; rfl
      | cons x xs ih =>
        intro h
        rw [List.all_cons, Bool.and_eq_true] at h
        show (eqOk x && eqOks xs) = true
        rw [okQ_eqOk h.1, ih h.2]; rfl
    cases d with
    | ty _ => simp [okQ] at h
    | nd k o xs =>
      cases k with
      | lst => exact all xs h
      | tup => exact all xs h
      | _ => simp [okQ] at h
    | _ => rfl
theorem okQ_lay : ∀ {n : Nat} {d : D}, okQ n d = true → (pyd d).canLay0 = true
  | 0, _, h => by simp [okQ] at h
  | n + 1, d, h => by
    have all : ∀ xs : List D, xs.all (okQ n) = true → PyData.canLayAll0 (pyds xs) = true := fun xs => by
      induction xs with
      | nil => intro _; simp [pyds, PyData.canLayAll0]
      | cons x xs ih =>
        intro h
        rw [List.all_cons, Bool.and_eq_true] at h
        unfold pyds PyData.canLayAll0
        rw [okQ_lay h.1, ih h.2]; rfl
    cases d with
    | ty _ => simp [okQ] at h
    | nd k o xs =>
      cases k with
      | lst => unfold pyd; dsimp only; unfold PyData.canLay0; exact all xs h
      | tup => unfold pyd; dsimp only; unfold PyData.canLay0; exact all xs h
      | _ => simp [okQ] at h
    | str x => have h' : PyData.strOk x = true := h; unfold pyd PyData.canLay0; exact h'
    | _ => simp [pyd, PyData.canLay0]
theorem okQ_depth : ∀ {n : Nat} {d : D}, okQ n d = true → (pyd d).depth ≤ n
  | 0, _, h => by simp [okQ] at h
  | n + 1, d, h => by
    have all : ∀ xs : List D, xs.all (okQ n) = true → PyData.depthAll (pyds xs) ≤ n := fun xs => by
      induction xs with
      | nil => intro _; simp [pyds, PyData.depthAll]
      | cons x xs ih =>
        intro h
        rw [List.all_cons, Bool.and_eq_true] at h
        unfold pyds PyData.depthAll
        have := okQ_depth h.1
        have := ih h.2
        omega
    cases d with
    | ty _ => simp [okQ] at h
    | nd k o xs =>
      cases k with
      | lst => unfold pyd; dsimp only; unfold PyData.depth; have := all xs h; omega
      | tup => unfold pyd; dsimp only; unfold PyData.depth; have := all xs h; omega
      | _ => simp [okQ] at h
    | _ => simp [pyd, PyData.depth]
theorem okQ_eqv : ∀ {n m : Nat} {a b : D}, okQ n a = true → okQ m b = true → (PyData.eqv (pyd a) (pyd b) = true ↔ frz a = frz b)
  | 0, _, _, _, h, _ => by simp [okQ] at h
  | n + 1, 0, _, _, _, h => by simp [okQ] at h
  | n + 1, m + 1, a, b, ha, hb => by
    have all : ∀ xs ys : List D, xs.all (okQ n) = true → ys.all (okQ m) = true → (PyData.eqvAll (pyds xs) (pyds ys) = true ↔ frzs xs = frzs ys) := fun xs => by
      induction xs with
      | nil => intro ys _ _; cases ys <;> simp [pyds, PyData.eqvAll]
      | cons x xs ih =>
        intro ys h k
        cases ys with
        | nil => simp [pyds, PyData.eqvAll]
        | cons y ys =>
          rw [List.all_cons, Bool.and_eq_true] at h k
          unfold pyds PyData.eqvAll
          rw [Bool.and_eq_true, okQ_eqv h.1 k.1, ih ys h.2 k.2, frzs_cons, frzs_cons, List.cons.injEq]
    cases a with
    | ty _ => simp [okQ] at ha
    | bl _ => simp [okQ] at ha
    | nd k o xs =>
      cases b with
      | ty _ => simp [okQ] at hb
      | bl _ => simp [okQ] at hb
      | nd k' o' ys =>
        cases k with
        | lst =>
          cases k' with
          | lst => have := all xs ys ha hb; simp [pyd, PyData.eqv, this]
          | tup => simp [pyd, PyData.eqv]
          | _ => simp [okQ] at hb
        | tup =>
          cases k' with
          | lst => simp [pyd, PyData.eqv]
          | tup => have := all xs ys ha hb; simp [pyd, PyData.eqv, this]
          | _ => simp [okQ] at hb
        | _ => simp [okQ] at ha
      | _ =>
        cases k with
        | lst => simp [pyd, PyData.eqv]
        | tup => simp [pyd, PyData.eqv]
        | _ => simp [okQ] at ha
    | _ =>
      cases b with
      | ty _ => simp [okQ] at hb
      | bl _ => simp [okQ] at hb
      | nd k' o' ys =>
        cases k' with
        | lst => simp [pyd, PyData.eqv]
        | tup => simp [pyd, PyData.eqv]
        | _ => simp [okQ] at hb
      | _ => simp [pyd, PyData.eqv]
theorem eqD_ok {a b : D} (ha : okQ 60 a = true) (hb : okQ 60 b = true) : ∃ k, eqD a b = some (.bl k) ∧ (k = true ↔ frz a = frz b) := by
  have d1 := okQ_depth ha
  have d2 := okQ_depth hb
  refine ⟨PyData.eqv (pyd a) (pyd b), ?_, okQ_eqv ha hb⟩
  unfold eqD SeqAt.shaped
  rw [okQ_eqOk ha, okQ_eqOk hb, okQ_lay ha, okQ_lay hb, decide_eq_true (by omega : (pyd a).depth ≤ 64), decide_eq_true (by omega : (pyd b).depth ≤ 64)]
  rfl
theorem neD_ok {a b : D} (ha : okQ 60 a = true) (hb : okQ 60 b = true) : ∃ k, neD a b = some (.bl k) ∧ (k = true ↔ frz a ≠ frz b) := by
  have d1 := okQ_depth ha
  have d2 := okQ_depth hb
  refine ⟨!PyData.eqv (pyd a) (pyd b), ?_, by rw [Bool.not_eq_true', Ne, ← okQ_eqv ha hb, Bool.not_eq_true]⟩
  unfold neD SeqAt.shaped
  rw [okQ_eqOk ha, okQ_eqOk hb, okQ_lay ha, okQ_lay hb, decide_eq_true (by omega : (pyd a).depth ≤ 64), decide_eq_true (by omega : (pyd b).depth ≤ 64)]
  rfl
theorem eqD_t {a b : D} (ha : okQ 60 a = true) (hb : okQ 60 b = true) (h : frz a = frz b) : eqD a b = some (.bl true) := by
  obtain ⟨k, h1, h2⟩ := eqD_ok ha hb
  rw [h1, h2.mpr h]
theorem eqD_f {a b : D} (ha : okQ 60 a = true) (hb : okQ 60 b = true) (h : frz a ≠ frz b) : eqD a b = some (.bl false) := by
  obtain ⟨k, h1, h2⟩ := eqD_ok ha hb
  cases k with
  | true => exact absurd (h2.mp rfl) h
  | false => exact h1
theorem neD_f {a b : D} (ha : okQ 60 a = true) (hb : okQ 60 b = true) (h : frz a = frz b) : neD a b = some (.bl false) := by
  obtain ⟨k, h1, h2⟩ := neD_ok ha hb
  cases k with
  | true => exact absurd h (h2.mp rfl)
  | false => exact h1
theorem neD_t {a b : D} (ha : okQ 60 a = true) (hb : okQ 60 b = true) (h : frz a ≠ frz b) : neD a b = some (.bl true) := by
  obtain ⟨k, h1, h2⟩ := neD_ok ha hb
  rw [h1, h2.mpr h]
theorem okQ_ints {n : Nat} {o : Bool} {ms : List Int} : okQ (n + 2) (.nd .lst o (ms.map D.int)) = true := by
  show (ms.map D.int).all (okQ (n + 1)) = true
  rw [List.all_map, List.all_eq_true]
  intro x _
  rfl
end Lw

set_option Elab.async false
set_option linter.all false
set_option maxRecDepth 100000
set_option maxHeartbeats 2000000
/-! The laws' drawn tables: paths, tables, new names, other orders. -/
namespace Lw
open PySem L2 Bx
theorem Stk.le {n m : Nat} {s : D} (h : Stk n s) (hm : m ≤ n) : Stk m s := by
  obtain ⟨a, b, c, e, p1, p2, p3, p4, p5⟩ := h
  exact ⟨a, b, c, e, p1, p2, p3, p4, by omega⟩
def nextZ (first : Int) (k : Nat) (c : Cp) : Cp := if ((k : Int) + first) % 2 = 1 then (c.1 + 1, c.2) else (c.1, c.2 + 1)
/-- where the path stands behind k steps -/
def posZ (first : Int) : Nat → Cp
  | 0 => (0, 0)
  | k + 1 => nextZ first (k + 1) (posZ first k)
def strZ (first : Int) (n : Nat) : List Cp := (List.range (n + 1)).map (posZ first)
theorem strZ_succ {first : Int} {n : Nat} : strZ first (n + 1) = strZ first n ++ [nextZ first (n + 1) (posZ first n)] := by
  unfold strZ
  rw [List.range_succ, List.map_append]
  rfl
theorem strZ_len {first : Int} {n : Nat} : (strZ first n).length = n + 1 := by simp [strZ]
theorem strZ_last {first : Int} {n : Nat} : (strZ first n)[n]? = some (posZ first n) := by simp [strZ]
theorem posZ_small {first : Int} : ∀ k, 0 ≤ (posZ first k).1 ∧ (posZ first k).1 ≤ k ∧ 0 ≤ (posZ first k).2 ∧ (posZ first k).2 ≤ k
  | 0 => by simp [posZ]
  | k + 1 => by
    have h := posZ_small (first := first) k
    have e : posZ first (k + 1) = nextZ first (k + 1) (posZ first k) := rfl
    rw [e]
    unfold nextZ
    split <;> simp <;> omega
theorem straight_is {first : Int} {n : Nat} (hn : n < 100) : F_law_straight [.int n, .int first] = .ok (.nd .lst true ((strZ first n).map cD)) [none, none] := by
  have lp := forL_ix (g := gN 3) (b := fSeq (fAsg (gT 2 (gsCons (gN 4) (gsCons (gN 5) gsNil))) (eIxN 2 (eUn negD (eC (.int 1))))) (fExpr (eAppN 2 (eIf (tTst (eBin eqD (eBin modD (eCallB intD (aCons (eBin addD (eN 3) (eN 1)) aNil)) (eC (.int 2))) (eC (.int 1)))) (eTup (aCons (eBin addD (eN 4) (eC (.int 1))) (aCons (eN 5) aNil))) (eTup (aCons (eN 4) (aCons (eBin addD (eN 5) (eC (.int 1))) aNil)))))))
    (I := fun k e => ∃ x3 x4 x5, e = (⟨[some (.int n), some (.int first), some (.nd .lst true ((strZ first k).map cD)), x3, x4, x5], none⟩ : En)) (xs := rngD 1 n) (e := ⟨[some (.int n), some (.int first), some (.nd .lst true ((strZ first 0).map cD)), none, none, none], none⟩) (j := 0) ⟨none, none, none, rfl⟩ (fun k x hx e he => by
    obtain ⟨x3, x4, x5, rfl⟩ := he
    obtain ⟨hk, rfl⟩ := rngD_at hx
    rw [Nat.zero_add]
    have lst : ixN (strZ first k).length (-1) = some k := by
      rw [strZ_len]; unfold ixN; simp; omega
    have at_ : ((strZ first k).map cD)[k]? = some (cD (posZ first k)) := by rw [List.getElem?_map, strZ_last]; rfl
    have rf : refD (.nd .lst true ((strZ first k).map cD)) (.int (-1)) = some (cD (posZ first k), .nd .lst true ((strZ first k).map cD)) := by
      rw [refD_nd]
      simp only [cpos_lst, List.length_map, lst, Option.bind_some, at_, Option.map_some, frz_cD, if_true]
      rw [set_same at_]
    refine ⟨⟨[some (.int n), some (.int first), some (.nd .lst true ((strZ first k).map cD)), some (.int (1 + (k : Int))), x4, x5], none⟩, ⟨[some (.int n), some (.int first), some (.nd .lst true ((strZ first (k + 1)).map cD)), some (.int (1 + (k : Int))), some (.int (posZ first k).1), some (.int (posZ first k).2)], none⟩, by simp, ?_, _, _, _, rfl⟩
    have len : (strZ first k).length < 16000000 := by rw [strZ_len]; omega
    rw [strZ_succ]
    unfold nextZ
    by_cases q : (1 + (k : Int) + first) % 2 = 1
    · have q' : (((k + 1 : Nat) : Int) + first) % 2 = 1 := by omega
      rw [if_pos q']
      simp [rf, gT, cD, eqD_int, q, lim, len]
    · have q' : ¬ (((k + 1 : Nat) : Int) + first) % 2 = 1 := by omega
      rw [if_neg q']
      simp [rf, gT, cD, eqD_int, q, lim, len])
  obtain ⟨e', h1, x3, x4, x5, rfl⟩ := lp
  rw [show 0 + (rngD 1 n).length = n from by simp [rngD]] at h1
  have h1' : forL (gN 3) (fSeq (fAsg (gT 2 (gsCons (gN 4) (gsCons (gN 5) gsNil))) (eIxN 2 (eUn negD (eC (.int 1))))) (fExpr (eAppN 2 (eIf (tTst (eBin eqD (eBin modD (eCallB intD (aCons (eBin addD (eN 3) (eN 1)) aNil)) (eC (.int 2))) (eC (.int 1)))) (eTup (aCons (eBin addD (eN 4) (eC (.int 1))) (aCons (eN 5) aNil))) (eTup (aCons (eN 4) (aCons (eBin addD (eN 5) (eC (.int 1))) aNil))))))) (rngD 1 n) ⟨[some (.int n), some (.int first), some (.nd .lst true [.nd .tup false [.int 0, .int 0]]), none, none, none], none⟩ = _ := h1
  have r1 : rngA2 [.int 1, .int ((n : Int) + 1)] = some (rngD 1 n) := by
    rw [rngA2_ok (by omega) (by omega) (by omega) (by omega)]
    congr 2
    omega
  unfold F_law_straight B_law_straight
  simp [fDef, lim, r1, -rngA2_ok]
  rw [h1']
  simp
/-- new names for the deeds -/
theorem renamed_is {n : Nat} {s : D} {cs : List Cp} (h : Stk (n + 4) s) (hl : cs.length < 100) (hb : ∀ c ∈ cs, 0 ≤ c.1 ∧ c.1 ≤ 1000 ∧ 0 ≤ c.2 ∧ c.2 ≤ 1000) : ∃ (s' : D) (f : Cp → Cp), F_law_renamed [s, .nd .lst false (cs.map cD)] = .ok (.nd .lst true ((cs.map f).map cD)) [some s', none] ∧ Stk n s' ∧ ∀ c, 0 ≤ (f c).1 ∧ (f c).1 < 197 ∧ 0 ≤ (f c).2 ∧ (f c).2 < 197 := by
  obtain ⟨m0, s1, e1, a1, b1, k1⟩ := pick_ok (m := 196) h (by decide) (by decide)
  obtain ⟨m1, s2, e2, a2, b2, k2⟩ := pick_ok (m := 196) k1 (by decide) (by decide)
  obtain ⟨p0, s3, e3, a3, b3, k3⟩ := pick_ok (m := 197) k2 (by decide) (by decide)
  obtain ⟨p1, s4, e4, a4, b4, k4⟩ := pick_ok (m := 197) k3 (by decide) (by decide)
  have i0 : ixN 2 0 = some 0 := rfl
  have i1 : ixN 2 1 = some 1 := rfl
  let f : Cp → Cp := fun c => ((c.1 * (1 + m0) + p0) % 197, (c.2 * (1 + m1) + p1) % 197)
  refine ⟨s4, f, ?_, k4, fun c => ⟨Int.emod_nonneg _ (by decide), Int.emod_lt_of_pos _ (by decide), Int.emod_nonneg _ (by decide), Int.emod_lt_of_pos _ (by decide)⟩⟩
  have lc := lcL_map (vs := [4, 5]) (g := gT 2 (gsCons (gN 4) (gsCons (gN 5) gsNil))) (tt := tYesF) (el := eTup (aCons (eBin modD (eCallB intD (aCons (eBin addD (eBin mulD (eN 4) (eIxN 2 (eC (.int 0)))) (eIxN 3 (eC (.int 0)))) aNil)) (eC (.int 197))) (aCons (eBin modD (eCallB intD (aCons (eBin addD (eBin mulD (eN 5) (eIxN 2 (eC (.int 1)))) (eIxN 3 (eC (.int 1)))) aNil)) (eC (.int 197))) aNil)))
    (base := ⟨[some s4, some (.nd .lst false (cs.map cD)), some (.nd .lst true [.int (1 + m0), .int (1 + m1)]), some (.nd .lst true [.int p0, .int p1]), none, none], none⟩) (y := fun d => match d with | .nd _ _ [.int a, .int b] => cD (f (a, b)) | _ => .non) (xs := cs.map cD) (acc := []) (fun x hx => by
      obtain ⟨c, hc, rfl⟩ := List.mem_map.mp hx
      have hb := hb c hc
      have m2 : mulOk c.1 (1 + m0) = true := mulOk_60 (by omega) (by omega)
      have m3 : mulOk c.2 (1 + m1) = true := mulOk_60 (by omega) (by omega)
      refine ⟨⟨[some s4, some (.nd .lst false (cs.map cD)), some (.nd .lst true [.int (1 + m0), .int (1 + m1)]), some (.nd .lst true [.int p0, .int p1]), some (.int c.1), some (.int c.2)], none⟩, _, ⟨[some s4, some (.nd .lst false (cs.map cD)), some (.nd .lst true [.int (1 + m0), .int (1 + m1)]), some (.nd .lst true [.int p0, .int p1]), some (.int c.1), some (.int c.2)], none⟩, by simp [gT, cD], rfl, by simp [i0, i1, m2, m3, lim, f, cD], by simp⟩) (by simp [lim]; omega)
  rw [List.nil_append] at lc
  have e : (cs.map cD).map (fun d => match d with | .nd _ _ [.int a, .int b] => cD (f (a, b)) | _ => .non) = (cs.map f).map cD := by
    rw [List.map_map, List.map_map]
    refine List.map_congr_left fun c _ => rfl
  rw [e] at lc
  unfold F_law_renamed B_law_renamed
  simp [fDef, e1, e2, e3, e4, lim]
  rw [lc]
  simp [outs]
/-- a comprehension whose tests draw -/
theorem lcL_ix {vs : List Nat} {g : FG} {tt : FT} {el : FE} {I : Nat → En → Prop} {R : D → Prop} : ∀ {xs acc : List D} {e : En} {j : Nat}, I j e → (∀ i x, xs[i]? = some x → ∀ e, I (j + i) e → ∃ e1 b e2, g x e = some e1 ∧ tt e1 = .ok b e2 ∧ (b = true → ∃ y e3, el e2 = .ok y e3 ∧ I (j + i + 1) (delL e3 vs) ∧ R y) ∧ (b = false → I (j + i + 1) (delL e2 vs))) → acc.length + xs.length ≤ lim →
    ∃ ys e', lcL vs g tt el xs acc e = .ok (acc ++ ys) e' ∧ I (j + xs.length) e' ∧ (∀ y ∈ ys, R y) ∧ ys.length ≤ xs.length
  | [], acc, e, j, h, _, _ => ⟨[], e, by rw [List.append_nil]; rfl, h, fun y hy => (by cases hy), Nat.le_refl _⟩
  | x :: xs, acc, e, j, h, st, hl => by
    rw [List.length_cons] at hl
    obtain ⟨e1, b, e2, h1, h2, h3, h4⟩ := st 0 x rfl e h
    have st' : ∀ i y, xs[i]? = some y → ∀ e, I (j + 1 + i) e → ∃ e1 b e2, g y e = some e1 ∧ tt e1 = .ok b e2 ∧ (b = true → ∃ z e3, el e2 = .ok z e3 ∧ I (j + 1 + i + 1) (delL e3 vs) ∧ R z) ∧ (b = false → I (j + 1 + i + 1) (delL e2 vs)) := fun i y hy e he => by
      have := st (i + 1) y (by simpa using hy) e (by rw [show j + (i + 1) = j + 1 + i from by omega]; exact he)
      rw [show j + (i + 1) = j + 1 + i from by omega] at this
      exact this
    cases b with
    | true =>
      obtain ⟨y, e3, k1, k2, k3⟩ := h3 rfl
      obtain ⟨ys, e', q1, q2, q3, q4⟩ := lcL_ix (xs := xs) (acc := acc ++ [y]) (e := delL e3 vs) (j := j + 1) k2 st' (by simp; omega)
      refine ⟨y :: ys, e', ?_, by rw [List.length_cons, show j + (xs.length + 1) = j + 1 + xs.length from by omega]; exact q2, fun z hz => ?_, by simp; omega⟩
      · rw [lcL_step h1 h2 k1 (by omega), q1]; simp
      · rcases List.mem_cons.mp hz with rfl | hz
        · exact k3
        · exact q3 z hz
    | false =>
      obtain ⟨ys, e', q1, q2, q3, q4⟩ := lcL_ix (xs := xs) (acc := acc) (e := delL e2 vs) (j := j + 1) (h4 rfl) st' (by omega)
      refine ⟨ys, e', ?_, by rw [List.length_cons, show j + (xs.length + 1) = j + 1 + xs.length from by omega]; exact q2, q3, by rw [List.length_cons]; omega⟩
      rw [lcL_skip h1 h2, q1]
/-- what a drawn table is made of -/
def Tok (cs : List Cp) : Prop := ∀ c ∈ cs, 0 ≤ c.1 ∧ c.1 ≤ 1000 ∧ 0 ≤ c.2 ∧ c.2 ≤ 1000
theorem cD_list {ys : List D} (h : ∀ y ∈ ys, ∃ c : Cp, y = cD c ∧ 0 ≤ c.1 ∧ c.1 ≤ 1000 ∧ 0 ≤ c.2 ∧ c.2 ≤ 1000) : ∃ cs : List Cp, ys = cs.map cD ∧ Tok cs := by
  induction ys with
  | nil => exact ⟨[], rfl, fun c hc => by cases hc⟩
  | cons y ys ih =>
    obtain ⟨c, rfl, hc⟩ := h y List.mem_cons_self
    obtain ⟨cs, rfl, h2⟩ := ih fun z hz => h z (List.mem_cons_of_mem _ hz)
    exact ⟨c :: cs, rfl, fun d hd => by
      rcases List.mem_cons.mp hd with rfl | hd
      · exact hc
      · exact h2 d hd⟩
abbrev fX (s : D) (rows cols share : Int) (x4 x5 x6 : Option D) : En := ⟨[some s, some (.int rows), some (.int cols), some (.int share), x4, x5, x6], none⟩
theorem trow_is {n : Nat} {s : D} {rows share i : Int} {cols : Nat} {x6 : Option D} {cs : List Cp} (h : Stk (n + cols) s) (hc : cols ≤ 10) (hi : 0 ≤ i) (hi2 : i ≤ 100) (hl : cs.length < 1000) (ok : Tok cs) : ∃ (s' : D) (cs' : List Cp), (fAsg (gN 4) (eBin addD (eN 4) (eLc [6] (iRng1 (aCons (eN 2) aNil)) (gN 6) (tTst (eBin ltD (eCall 2 F_law_pick (aIo 0 (aCons (eC (.int 4)) aNil))) (eN 3))) (eTup (aCons (eN 5) (aCons (eN 6) aNil)))))) (fX s rows cols share (some (.nd .lst true (cs.map cD))) (some (.int i)) x6) = .nx (fX s' rows cols share (some (.nd .lst true (cs'.map cD))) (some (.int i)) none) ∧ Stk n s' ∧ cs'.length ≤ cs.length + cols ∧ Tok cs' := by
  obtain ⟨ys, e', h1, ⟨s', k1, rfl⟩, h3, h4⟩ := lcL_ix (vs := [6]) (g := gN 6) (tt := tTst (eBin ltD (eCall 2 F_law_pick (aIo 0 (aCons (eC (.int 4)) aNil))) (eN 3))) (el := eTup (aCons (eN 5) (aCons (eN 6) aNil)))
    (I := fun j e => ∃ s', Stk (n + (cols - j)) s' ∧ e = fX s' rows cols share (some (.nd .lst false (cs.map cD))) (some (.int i)) none) (R := fun y => ∃ c : Cp, y = cD c ∧ 0 ≤ c.1 ∧ c.1 ≤ 1000 ∧ 0 ≤ c.2 ∧ c.2 ≤ 1000) (xs := rngD 0 cols) (acc := []) (e := fX s rows cols share (some (.nd .lst false (cs.map cD))) (some (.int i)) none) (j := 0) ⟨s, h, rfl⟩ (fun j x hx e he => by
      obtain ⟨s1, k1, rfl⟩ := he
      obtain ⟨hj, rfl⟩ := rngD_at hx
      rw [Nat.zero_add] at k1 ⊢
      obtain ⟨r, s2, e2, a2, b2, k2⟩ := pick_ok (n := n + (cols - (j + 1))) (m := 4) (s := s1) (by rw [show n + (cols - (j + 1)) + 1 = n + (cols - j) from by omega]; exact k1) (by decide) (by decide)
      refine ⟨fX s1 rows cols share (some (.nd .lst false (cs.map cD))) (some (.int i)) (some (.int (0 + (j : Int)))), decide (r < share), fX s2 rows cols share (some (.nd .lst false (cs.map cD))) (some (.int i)) (some (.int (0 + (j : Int)))), by simp, by simp [e2], fun _ => ⟨cD (i, 0 + (j : Int)), fX s2 rows cols share (some (.nd .lst false (cs.map cD))) (some (.int i)) (some (.int (0 + (j : Int)))), by simp [lim, cD], ⟨s2, k2, by simp⟩, _, rfl, hi, by show i ≤ 1000; omega, by show 0 ≤ 0 + (j : Int); omega, by show 0 + (j : Int) ≤ 1000; omega⟩, fun _ => ⟨s2, k2, by simp⟩⟩) (by simp [rngD, lim]; omega)
  obtain ⟨cs2, rfl, ok2⟩ := cD_list h3
  rw [show 0 + (rngD 0 cols).length = cols from by simp [rngD], Nat.sub_self] at k1
  rw [List.length_map, rngD, List.length_map, List.length_range] at h4
  have r1 : rngA1 [.int (cols : Int)] = some (rngD 0 cols) := by rw [rngA1_ok (by omega) (by omega)]; simp
  refine ⟨s', cs ++ cs2, ?_, k1, by simp; omega, fun c hc => ?_⟩
  · have h1' : lcL [6] (gN 6) (tTst (eBin ltD (eCall 2 F_law_pick (aIo 0 (aCons (eC (.int 4)) aNil))) (eN 3))) (eTup (aCons (eN 5) (aCons (eN 6) aNil))) (rngD 0 cols) [] ⟨[some s, some (.int rows), some (.int cols), some (.int share), some (.nd .lst false (cs.map cD)), some (.int i), none], none⟩ = _ := h1
    simp [-rngA1_ok, r1, h1']
    rw [if_pos (by simp [lim]; omega)]
    simp
  · rcases List.mem_append.mp hc with q | q
    · exact ok c q
    · exact ok2 c q
theorem table_is {n : Nat} {s : D} {rows cols : Nat} {share : Int} (h : Stk (n + 27) s) (hr : rows ≤ 5) (hr0 : 0 < rows) (hc : cols ≤ 5) (hc0 : 0 < cols) : ∃ (s' : D) (cs : List Cp) (b : Bool), F_law_table [s, .int rows, .int cols, .int share] = .ok (.nd .lst b (cs.map cD)) [some s', none, none, none] ∧ Stk n s' ∧ cs ≠ [] ∧ cs.length ≤ 25 ∧ Tok cs := by
  obtain ⟨e', h1, s', cs, x5, x6, k1, l1, ok, rfl⟩ := forL_ix (g := gN 5) (b := fAsg (gN 4) (eBin addD (eN 4) (eLc [6] (iRng1 (aCons (eN 2) aNil)) (gN 6) (tTst (eBin ltD (eCall 2 F_law_pick (aIo 0 (aCons (eC (.int 4)) aNil))) (eN 3))) (eTup (aCons (eN 5) (aCons (eN 6) aNil))))))
    (I := fun i e => ∃ (s' : D) (cs : List Cp) (x5 x6 : Option D), Stk (n + 2 + 5 * (5 - i)) s' ∧ cs.length ≤ 5 * i ∧ Tok cs ∧ e = fX s' rows cols share (some (.nd .lst true (cs.map cD))) x5 x6) (xs := rngD 0 rows) (e := fX s rows cols share (some (.nd .lst true [])) none none) (j := 0) ⟨s, [], none, none, h, by simp, fun c hc => (by cases hc), rfl⟩ (fun i x hx e he => by
    obtain ⟨s1, cs, x5, x6, k1, l1, ok, rfl⟩ := he
    obtain ⟨hi, rfl⟩ := rngD_at hx
    rw [Nat.zero_add] at k1 l1 ⊢
    obtain ⟨s2, cs2, e2, k2, l2, ok2⟩ := trow_is (n := n + 2 + 5 * (5 - (i + 1))) (s := s1) (rows := rows) (share := share) (i := 0 + (i : Int)) (cols := cols) (x6 := x6) (cs := cs) (k1.le (by omega)) (by omega) (by omega) (by omega) (by omega) ok
    exact ⟨fX s1 rows cols share (some (.nd .lst true (cs.map cD))) (some (.int (0 + (i : Int)))) x6, _, by simp, e2, s2, cs2, _, _, k2, by omega, ok2, rfl⟩)
  rw [show 0 + (rngD 0 rows).length = rows from by simp [rngD]] at k1 l1
  have r1 : rngA1 [.int (rows : Int)] = some (rngD 0 rows) := by rw [rngA1_ok (by omega) (by omega)]; simp
  have h1' : forL (gN 5) (fAsg (gN 4) (eBin addD (eN 4) (eLc [6] (iRng1 (aCons (eN 2) aNil)) (gN 6) (tTst (eBin ltD (eCall 2 F_law_pick (aIo 0 (aCons (eC (.int 4)) aNil))) (eN 3))) (eTup (aCons (eN 5) (aCons (eN 6) aNil)))))) (rngD 0 rows) ⟨[some s, some (.int rows), some (.int cols), some (.int share), some (.nd .lst true []), none, none], none⟩ = _ := h1
  unfold F_law_table B_law_table
  by_cases z : cs = []
  · subst z
    obtain ⟨u, s2, e2, a2, b2, k2⟩ := pick_ok (n := n + 1) (m := rows) (s := s') (k1.le (by omega)) (by omega) (by omega)
    obtain ⟨v, s3, e3, a3, b3, k3⟩ := pick_ok (n := n) (m := cols) k2 (by omega) (by omega)
    refine ⟨s3, [(u, v)], true, ?_, k3, by simp, by simp, fun c hc => ?_⟩
    · simp [fDef, lim, -rngA1_ok, r1]
      rw [h1']
      simp [e2, e3, lim, cD, outs]
    · have : c = (u, v) := by simpa using hc
      rw [this]
      exact ⟨a2, by show u ≤ 1000; omega, a3, by show v ≤ 1000; omega⟩
  · have pos : 0 < cs.length := by cases cs with
      | nil => exact absurd rfl z
      | cons c cs => simp
    refine ⟨s', cs, false, ?_, k1.le (by omega), z, by omega, ok⟩
    simp [fDef, lim, -rngA1_ok, r1]
    rw [h1']
    simp [pos, outs]
theorem picks {n m : Nat} {s : D} (h : Stk (n + 1) s) (hm : 0 < m) (hm2 : m < 1000) : ∃ (r : Nat) (s' : D), F_law_pick [s, .int m] = .ok (.int (r : Int)) [some s', none] ∧ r < m ∧ Stk n s' := by
  obtain ⟨r, s', e, a, b, k⟩ := pick_ok (m := m) h (by omega) (by omega)
  exact ⟨r.toNat, s', by rw [e]; congr 2; omega, by omega, k⟩
theorem ePopN_at {i : Nat} {a : FE} {e e1 : En} {d x : D} {xs0 xs ys : List D} (h0 : e.ownL i = some xs0) (h1 : a e = .ok d e1) (h2 : e1.ownL i = some xs) (h3 : popD d xs = some (x, ys)) : ePopN i a e = .ok x (e1.put i (.nd .lst true ys)) := by
  unfold ePopN
  rw [h0, if_pos (by rfl), h1, Rs.bind_ok, h2, Option.bind_some, h3]
theorem erase_map : ∀ {l : List Cp} {r : Nat}, (l.map cD).eraseIdx r = (l.eraseIdx r).map cD
  | [], _ => rfl
  | _ :: _, 0 => rfl
  | c :: l, r + 1 => by
    show cD c :: (l.map cD).eraseIdx r = cD c :: (l.eraseIdx r).map cD
    rw [erase_map]
theorem erase_perm : ∀ {l : List Cp} {r : Nat} (h : r < l.length), (l[r] :: l.eraseIdx r).Perm l
  | c :: l, 0, _ => .refl _
  | c :: l, r + 1, h => by
    have h' : r < l.length := by simpa using h
    show (l[r] :: c :: l.eraseIdx r).Perm (c :: l)
    exact (List.Perm.swap _ _ _).trans ((erase_perm h').cons c)
/-- another order -/
theorem shuffled_is {cs : List Cp} (hl : cs.length < 100) {n : Nat} {s : D} (h : Stk (n + cs.length) s) : ∃ (s' : D) (cs' : List Cp), F_law_shuffled [s, .nd .lst false (cs.map cD)] = .ok (.nd .lst true (cs'.map cD)) [some s', none] ∧ Stk n s' ∧ cs'.Perm cs := by
  have loop : ∀ (k : Nat) (left found : List Cp) (s : D), left.length = k → found.length + k = cs.length → Stk (n + k) s → ∃ (s' : D) (cs' : List Cp), whN (tTst (eBin gtD (eCallB lenD (aIo 2 aNil)) (eC (.int 0)))) (fExpr (eAppN 3 (ePopN 2 (eCall 2 F_law_pick (aIo 0 (aCons (eCallB lenD (aIo 2 aNil)) aNil)))))) (k + 1) ⟨[some s, some (.nd .lst false (cs.map cD)), some (.nd .lst true (left.map cD)), some (.nd .lst true (found.map cD))], none⟩ = .nx ⟨[some s', some (.nd .lst false (cs.map cD)), some (.nd .lst true []), some (.nd .lst true (cs'.map cD))], none⟩ ∧ Stk n s' ∧ cs'.Perm (found ++ left) := by
    intro k
    induction k with
    | zero =>
      intro left found s hk hf hs
      have : left = [] := List.length_eq_zero_iff.mp hk
      subst this
      refine ⟨s, found, ?_, hs, by simp⟩
      unfold whN
      simp
    | succ k ih =>
      intro left found s hk hf hs
      obtain ⟨r, s1, e1, r1, k1⟩ := picks (n := n + k) (m := left.length) hs (by omega) (by omega)
      have at_ : left[r]? = some left[r] := List.getElem?_eq_getElem r1
      obtain ⟨s', cs', e2, k2, pm⟩ := ih (left.eraseIdx r) (found ++ [left[r]]) s1 (by rw [List.length_eraseIdx_of_lt r1]; omega) (by simp; omega) k1
      refine ⟨s', cs', ?_, k2, pm.trans ?_⟩
      · have pos : 0 < left.length := by omega
        have pp : popD (.int (r : Int)) (left.map cD) = some (cD left[r], (left.eraseIdx r).map cD) := by
          unfold popD
          dsimp only
          have sq : seqIndex? (r : Int) (left.map cD).length = some r := by
            unfold seqIndex?
            rw [List.length_map]
            simp
            omega
          rw [if_pos (by omega), sq, Option.bind_some, List.getElem?_map, at_, erase_map]
          rfl
        have pop : ePopN 2 (eCall 2 F_law_pick (aIo 0 (aCons (eCallB lenD (aIo 2 aNil)) aNil))) ⟨[some s, some (.nd .lst false (cs.map cD)), some (.nd .lst true (left.map cD)), some (.nd .lst true (found.map cD))], none⟩ = .ok (cD left[r]) ⟨[some s1, some (.nd .lst false (cs.map cD)), some (.nd .lst true ((left.eraseIdx r).map cD)), some (.nd .lst true (found.map cD))], none⟩ :=
          ePopN_at (e1 := ⟨[some s1, some (.nd .lst false (cs.map cD)), some (.nd .lst true (left.map cD)), some (.nd .lst true (found.map cD))], none⟩) (xs0 := left.map cD) (xs := left.map cD) (d := .int r) rfl (by simp [e1]) rfl pp
        have fl : found.length < 16000000 := by omega
        unfold whN
        simp [pos, pop, lim, fl]
        simp at e2
        exact e2
      · rw [List.append_assoc]
        exact List.Perm.append_left _ (erase_perm r1)
  obtain ⟨s', cs', e1, k1, pm⟩ := loop cs.length cs [] s rfl (by simp) h
  have wh := fWh_of e1 (by simp)
  have wh' : fWh (tTst (eBin gtD (eCallB lenD (aIo 2 aNil)) (eC (.int 0)))) (fExpr (eAppN 3 (ePopN 2 (eCall 2 F_law_pick (aIo 0 (aCons (eCallB lenD (aIo 2 aNil)) aNil)))))) ⟨[some s, some (.nd .lst false (cs.map cD)), some (.nd .lst true (cs.map cD)), some (.nd .lst true [])], none⟩ = _ := wh
  refine ⟨s', cs', ?_, k1, by simpa using pm⟩
  unfold F_law_shuffled B_law_shuffled
  simp [fDef, lim]
  rw [wh']
  simp [outs]
end Lw

set_option Elab.async false
set_option linter.all false
set_option maxRecDepth 100000
/-! printed by gen.py: the defs over data -/
namespace K18
open PySem L2 Bx Lw
noncomputable section
def isA_BadRow : Str → Option Bool := fun c => if c = "BadRow" then some true else none
def B_law_e_drawn_table : FS := (fSeq (fIf (tTst (eBin eqD (eCall 2 F_law_pick (aIo 0 (aCons (eC (.int 3)) aNil))) (eC (.int 0)))) (fSeq (fAsg (gN 1) (eCall 2 F_law_pick (aIo 0 (aCons (eC (.int 25)) aNil)))) (fSeq (fAsg (gN 2) (eCall 2 F_law_straight (aCons (eN 1) (aCons (eCall 2 F_law_pick (aIo 0 (aCons (eC (.int 2)) aNil))) aNil)))) (fFor (iRng1 (aCons (eCall 2 F_law_pick (aIo 0 (aCons (eC (.int 4)) aNil))) aNil)) (gN 3) (fSeq (fAsg (gN 4) (eTup (aCons (eCall 2 F_law_pick (aIo 0 (aCons (eC (.int 14)) aNil))) (aCons (eCall 2 F_law_pick (aIo 0 (aCons (eC (.int 14)) aNil))) aNil)))) (fIf (tTst (eInL true (eN 4) (lN 2))) (fExpr (eAppN 2 (eN 4))) fNext))))) (fAsg (gN 2) (eCall 4 F_law_table (aIo 0 (aCons (eBin addD (eC (.int 1)) (eCall 2 F_law_pick (aIo 0 (aCons (eC (.int 5)) aNil)))) (aCons (eBin addD (eC (.int 1)) (eCall 2 F_law_pick (aIo 0 (aCons (eC (.int 5)) aNil)))) (aCons (eBin addD (eC (.int 1)) (eCall 2 F_law_pick (aIo 0 (aCons (eC (.int 3)) aNil)))) aNil))))))) (fRet (eCall 2 F_law_renamed (aIo 0 (aCons (eN 2) aNil)))))
def F_law_e_drawn_table : List D → CR := fDef 5 [0] B_law_e_drawn_table
def B_law_e_asked : FS := (fTryAs 4 isA_BadRow (fRet (eCall 4 F_walk_of (aCons (eN 0) (aCons (eN 1) (aCons (eN 2) (aCons (eN 3) aNil)))))) (fRet (eTup (aCons (eC (.str "refused")) (aCons (eXf "BadRow" "what") aNil)))))
def F_law_e_asked : List D → CR := fDef 5 [] B_law_e_asked
def B_law_e_question : FS := (fSeq (fAsg (gN 2) (eIf (tTst (eBin eqD (eCall 2 F_law_pick (aIo 0 (aCons (eC (.int 2)) aNil))) (eC (.int 0)))) (eIxN 1 (eC (.int 0))) (eIxN 1 (eCall 2 F_law_pick (aIo 0 (aCons (eCallB lenD (aIo 1 aNil)) aNil)))))) (fSeq (fAsg (gN 3) (eIf (tTst (eBin eqD (eCall 2 F_law_pick (aIo 0 (aCons (eC (.int 2)) aNil))) (eC (.int 0)))) (eIxN 1 (eBin subD (eCallB lenD (aIo 1 aNil)) (eC (.int 1)))) (eIxN 1 (eCall 2 F_law_pick (aIo 0 (aCons (eCallB lenD (aIo 1 aNil)) aNil)))))) (fSeq (fAsg (gN 4) (eCall 2 F_law_pick (aIo 0 (aCons (eC (.int 12)) aNil)))) (fSeq (fIf (tTst (eBin eqD (eN 4) (eC (.int 0)))) (fAsg (gN 2) (eTup (aCons (eBin addD (eIxN 2 (eC (.int 0))) (eC (.int 197))) (aCons (eIxN 2 (eC (.int 1))) aNil)))) fNext) (fSeq (fIf (tTst (eBin eqD (eN 4) (eC (.int 1)))) (fAsg (gN 3) (eTup (aCons (eIxN 3 (eC (.int 0))) (aCons (eBin addD (eIxN 3 (eC (.int 1))) (eC (.int 197))) aNil)))) fNext) (fSeq (fAsg (gN 5) (eIf (tTst (eBin eqD (eCall 2 F_law_pick (aIo 0 (aCons (eC (.int 12)) aNil))) (eC (.int 0)))) (eBin addD (eC (.int 2)) (eCall 2 F_law_pick (aIo 0 (aCons (eC (.int 3)) aNil)))) (eCall 2 F_law_pick (aIo 0 (aCons (eC (.int 2)) aNil))))) (fRet (eTup (aCons (eN 2) (aCons (eN 3) (aCons (eN 5) aNil)))))))))))
def F_law_e_question : List D → CR := fDef 6 [0] B_law_e_question
def B_law_e_due : FS := (fSeq (fIf (tOr (tTst (eInL true (eN 1) (lN 0))) (tTst (eInL true (eN 2) (lN 0)))) (fRet (eTup (aCons (eC (.str "refused")) (aCons (eC (.str "bear")) aNil)))) fNext) (fSeq (fIf (tTst (eBin notInD (eN 3) (eTup (aCons (eC (.int 0)) (aCons (eC (.int 1)) aNil))))) (fRet (eTup (aCons (eC (.str "refused")) (aCons (eC (.str "numbers")) aNil)))) fNext) (fRet (eCall 4 F_law_walk (aCons (eN 0) (aCons (eN 1) (aCons (eN 2) (aCons (eN 3) aNil))))))))
def F_law_e_due : List D → CR := fDef 4 [] B_law_e_due
def B_law : FS := (fSeq (fAsg (gN 1) (eLst (aCons (eCall 2 F_law_source (aCons (eN 0) (aCons (eC (.int 0)) aNil))) (aCons (eCall 2 F_law_source (aCons (eN 0) (aCons (eC (.int 1)) aNil))) aNil)))) (fSeq (fAsg (gN 2) (eLcB 1 15 (eCall 1 F_law_e_drawn_table (aIo 15 aNil)))) (fSeq (fAsg (gN 3) (eLst aNil)) (fSeq (fFor (iRng1 (aCons (eC (.int 3)) aNil)) (gN 4) (fFor (iRng1 (aCons (eC (.int 2)) aNil)) (gN 5) (fSeq (fAsg (gN 10) (eIxN 2 (eN 5))) (fSeq (fAsg (gT 3 (gsCons (gN 6) (gsCons (gN 7) (gsCons (gN 8) gsNil)))) (eCallP 2 F_law_e_question (lIx (lN 1) (qL (lN 5))) [(qL (lN 10))])) (fSeq (fAsg (gN 9) (eCall 4 F_law_e_due (aCons (eN 10) (aCons (eN 6) (aCons (eN 7) (aCons (eN 8) aNil)))))) (fSeq (fAsg (gN 13) (eCallF listD (aCons (eN 10) aNil))) (fSeq (fAsg (gN 14) (eCall 4 F_law_e_asked (aCons (eN 13) (aCons (eN 6) (aCons (eN 7) (aCons (eN 8) aNil)))))) (fSeq (fIf (tOr (tNt (tTst (eCallV 2 (F_law_same 8) (aIo 14 (aIo 9 aNil))))) (tTst (eBin neD (eN 13) (eN 10)))) (fRet (eC (.bl false))) fNext) (fSeq (fExpr (eAppN 3 (eTup (aCons (eN 5) (aCons (eN 6) (aCons (eN 7) (aCons (eN 8) (aCons (eN 9) aNil)))))))) (fIf (tTst (eCallB isiD (aIo 14 (aCons (eC (.ty "list")) aNil)))) (fExpr (eAppN 14 (eIxN 14 (eC (.int 0))))) fNext)))))))))) (fSeq (fFor (iE (eN 3)) (gT 5 (gsCons (gN 5) (gsCons (gN 6) (gsCons (gN 7) (gsCons (gN 8) (gsCons (gN 9) gsNil)))))) (fSeq (fAsg (gN 12) (eCallP 2 F_law_shuffled (lIx (lN 1) (qL (lN 5))) [(qL (lIx (lN 2) (qL (lN 5))))])) (fIf (tNt (tTst (eCallV 2 (F_law_same 8) (aCons (eCall 4 F_law_e_asked (aCons (eBin addD (eN 12) (eSl (eN 12) none (some (eC (.int 1))))) (aCons (eN 6) (aCons (eN 7) (aCons (eN 8) aNil))))) (aIo 9 aNil))))) (fRet (eC (.bl false))) fNext))) (fSeq (fAsg (gN 10) (eIxN 2 (eC (.int 0)))) (fSeq (fIf (tNt (tTst (eCallV 2 (F_law_same 8) (aCons (eCall 4 F_law_e_asked (aCons (eN 10) (aCons (eIxN 10 (eC (.int 0))) (aCons (eIxN 10 (eC (.int 0))) (aCons (eC (.int 1)) aNil))))) (aCons (eLst (aCons (eIxN 10 (eC (.int 0))) aNil)) aNil))))) (fRet (eC (.bl false))) fNext) (fSeq (fAsg (gN 11) (eCall 2 F_law_straight (aCons (eC (.int 5)) (aCons (eC (.int 1)) aNil)))) (fRet (eCallV 2 (F_law_same 8) (aCons (eCall 4 F_law_e_asked (aCons (eN 11) (aCons (eIxN 11 (eC (.int 0))) (aCons (eIxN 11 (eC (.int 5))) (aCons (eC (.int 1)) aNil))))) (aIo 11 aNil))))))))))))
def F_law : List D → CR := fDef 16 [] B_law
end
end K18

set_option Elab.async false
set_option linter.all false
set_option maxRecDepth 100000
set_option maxHeartbeats 4000000
/-! printed by gen.py: the walk -/
namespace K18
open PySem L2 Bx Lw
abbrev topS (i : Nat) : Stmt := PySem.Challenge.pw_howeverlost_k18_shortest_walks.main.body.getD i (.Pass ⟨0, 0, 0, 0⟩)
abbrev st_law_straight : Stmt := topS 18
abbrev N_law_straight : List Str := ["steps", "first", "found", "k", "i", "j"]
theorem sc_law_straight : FnScope N_law_straight ["steps", "first"] (defScope st_law_straight) := ⟨rfl, rfl, rfl, by decide +kernel, rfl, by decide +kernel, by decide +kernel⟩
abbrev st_law_same : Stmt := topS 15
abbrev N_law_same : List Str := ["answer", "due", "pairs", "key", "one", "at"]
theorem sc_law_same : FnScope N_law_same ["answer", "due"] (defScope st_law_same) := ⟨rfl, rfl, rfl, by decide +kernel, rfl, by decide +kernel, by decide +kernel⟩
abbrev st_law_source : Stmt := topS 12
abbrev N_law_source : List Str := ["script", "at", "cell", "size", "small", "one"]
theorem sc_law_source : FnScope N_law_source ["script", "at"] (defScope st_law_source) := ⟨rfl, rfl, rfl, by decide +kernel, rfl, by decide +kernel, by decide +kernel⟩
abbrev st_law_pick : Stmt := topS 13
abbrev N_law_pick : List Str := ["source", "many", "found"]
theorem sc_law_pick : FnScope N_law_pick ["source", "many"] (defScope st_law_pick) := ⟨rfl, rfl, rfl, by decide +kernel, rfl, by decide +kernel, by decide +kernel⟩
abbrev st_law_renamed : Stmt := topS 20
abbrev N_law_renamed : List Str := ["stock", "couples", "mult", "plus", "i", "j"]
theorem sc_law_renamed : FnScope N_law_renamed ["stock", "couples"] (defScope st_law_renamed) := ⟨rfl, rfl, rfl, by decide +kernel, rfl, by decide +kernel, by decide +kernel⟩
abbrev st_law_table : Stmt := topS 19
abbrev N_law_table : List Str := ["stock", "rows", "columns", "share", "found", "i", "j"]
theorem sc_law_table : FnScope N_law_table ["stock", "rows", "columns", "share"] (defScope st_law_table) := ⟨rfl, rfl, rfl, by decide +kernel, rfl, by decide +kernel, by decide +kernel⟩
abbrev st_law_e_drawn_table : Stmt := topS 21
abbrev N_law_e_drawn_table : List Str := ["stock", "steps", "couples", "turn", "one"]
theorem sc_law_e_drawn_table : FnScope N_law_e_drawn_table ["stock"] (defScope st_law_e_drawn_table) := ⟨rfl, rfl, rfl, by decide +kernel, rfl, by decide +kernel, by decide +kernel⟩
abbrev st_law_shuffled : Stmt := topS 14
abbrev N_law_shuffled : List Str := ["source", "things", "left", "found"]
theorem sc_law_shuffled : FnScope N_law_shuffled ["source", "things"] (defScope st_law_shuffled) := ⟨rfl, rfl, rfl, by decide +kernel, rfl, by decide +kernel, by decide +kernel⟩
abbrev st_check_bear : Stmt := topS 4
abbrev N_check_bear : List Str := ["couples", "told", "kept", "couple"]
theorem sc_check_bear : FnScope N_check_bear ["couples", "told"] (defScope st_check_bear) := ⟨rfl, rfl, rfl, by decide +kernel, rfl, by decide +kernel, by decide +kernel⟩
abbrev st_check_end : Stmt := topS 5
abbrev N_check_end : List Str := ["first"]
theorem sc_check_end : FnScope N_check_end ["first"] (defScope st_check_end) := ⟨rfl, rfl, rfl, by decide +kernel, rfl, by decide +kernel, by decide +kernel⟩
abbrev st_moves_of : Stmt := topS 6
abbrev N_moves_of : List Str := ["couples", "found", "couple", "end", "row", "table", "deed"]
theorem sc_moves_of : FnScope N_moves_of ["couples"] (defScope st_moves_of) := ⟨rfl, rfl, rfl, by decide +kernel, rfl, by decide +kernel, by decide +kernel⟩
abbrev st_moved : Stmt := topS 7
abbrev N_moved : List Str := ["moves", "couple", "end", "own", "deed"]
theorem sc_moved : FnScope N_moved ["moves", "couple", "end"] (defScope st_moved) := ⟨rfl, rfl, rfl, by decide +kernel, rfl, by decide +kernel, by decide +kernel⟩
abbrev st_steps_left : Stmt := topS 9
abbrev N_steps_left : List Str := ["moves", "goal", "found", "here", "many", "there", "couple", "mover", "before", "key"]
theorem sc_steps_left : FnScope N_steps_left ["moves", "goal"] (defScope st_steps_left) := ⟨rfl, rfl, rfl, by decide +kernel, rfl, by decide +kernel, by decide +kernel⟩
abbrev st_walk_of : Stmt := topS 10
abbrev N_walk_of : List Str := ["couples", "rest", "goal", "first", "moves", "left", "here", "mover", "found", "many", "one"]
theorem sc_walk_of : FnScope N_walk_of ["couples", "rest", "goal", "first"] (defScope st_walk_of) := ⟨rfl, rfl, rfl, by decide +kernel, rfl, by decide +kernel, by decide +kernel⟩
abbrev st_law_e_asked : Stmt := topS 22
abbrev N_law_e_asked : List Str := ["couples", "rest", "goal", "first", "error"]
theorem sc_law_e_asked : FnScope N_law_e_asked ["couples", "rest", "goal", "first"] (defScope st_law_e_asked) := ⟨rfl, rfl, rfl, by decide +kernel, rfl, by decide +kernel, by decide +kernel⟩
abbrev st_law_e_question : Stmt := topS 24
abbrev N_law_e_question : List Str := ["stock", "couples", "rest", "goal", "odd", "first"]
theorem sc_law_e_question : FnScope N_law_e_question ["stock", "couples"] (defScope st_law_e_question) := ⟨rfl, rfl, rfl, by decide +kernel, rfl, by decide +kernel, by decide +kernel⟩
abbrev st_law_moves : Stmt := topS 16
abbrev N_law_moves : List Str := ["couples", "couple", "end", "one"]
theorem sc_law_moves : FnScope N_law_moves ["couples", "couple", "end"] (defScope st_law_moves) := ⟨rfl, rfl, rfl, by decide +kernel, rfl, by decide +kernel, by decide +kernel⟩
abbrev st_law_walk : Stmt := topS 17
abbrev N_law_walk : List Str := ["couples", "rest", "goal", "first", "walks", "mover", "still", "turn", "grown", "couple", "one", "longer"]
theorem sc_law_walk : FnScope N_law_walk ["couples", "rest", "goal", "first"] (defScope st_law_walk) := ⟨rfl, rfl, rfl, by decide +kernel, rfl, by decide +kernel, by decide +kernel⟩
abbrev st_law_e_due : Stmt := topS 23
abbrev N_law_e_due : List Str := ["couples", "rest", "goal", "first"]
theorem sc_law_e_due : FnScope N_law_e_due ["couples", "rest", "goal", "first"] (defScope st_law_e_due) := ⟨rfl, rfl, rfl, by decide +kernel, rfl, by decide +kernel, by decide +kernel⟩
abbrev st_law : Stmt := topS 25
abbrev N_law : List Str := ["script", "stocks", "tables", "kept", "turn", "at", "rest", "goal", "first", "due", "couples", "line", "mixed", "given", "answer", "stock"]
theorem sc_law : FnScope N_law ["script"] (defScope st_law) := ⟨rfl, rfl, rfl, by decide +kernel, rfl, by decide +kernel, by decide +kernel⟩
abbrev sti_BadRow : Stmt := inClass (topS 2) 0
theorem sci_BadRow : FnScope ["self", "what"] ["self", "what"] (defScope sti_BadRow) := ⟨rfl, rfl, rfl, by decide +kernel, rfl, by decide +kernel, by decide +kernel⟩
structure Ad where
  f_law_straight : Addr
  d_law_straight : FuncData
  f_law_same : Addr
  d_law_same : FuncData
  f_law_source : Addr
  d_law_source : FuncData
  f_law_pick : Addr
  d_law_pick : FuncData
  f_law_renamed : Addr
  d_law_renamed : FuncData
  f_law_table : Addr
  d_law_table : FuncData
  f_law_e_drawn_table : Addr
  d_law_e_drawn_table : FuncData
  f_law_shuffled : Addr
  d_law_shuffled : FuncData
  f_check_bear : Addr
  d_check_bear : FuncData
  f_check_end : Addr
  d_check_end : FuncData
  f_moves_of : Addr
  d_moves_of : FuncData
  f_moved : Addr
  d_moved : FuncData
  f_steps_left : Addr
  d_steps_left : FuncData
  f_walk_of : Addr
  d_walk_of : FuncData
  f_law_e_asked : Addr
  d_law_e_asked : FuncData
  f_law_e_question : Addr
  d_law_e_question : FuncData
  f_law_moves : Addr
  d_law_moves : FuncData
  f_law_walk : Addr
  d_law_walk : FuncData
  f_law_e_due : Addr
  d_law_e_due : FuncData
  f_law : Addr
  d_law : FuncData
  c_BadRow : Addr
  fi_BadRow : Addr
  di_BadRow : FuncData
def Ad.ca (A : Ad) : Str → Addr := fun c => if c = "BadRow" then A.c_BadRow else 0
theorem Ad.ca_BadRow (A : Ad) : A.ca "BadRow" = A.c_BadRow := by
  unfold Ad.ca
  exact if_pos rfl
structure Tx (P : Program) (w : World) (K : PySem.W.Frag) (mg : Str → Option Value) (base : Heap) (A : Ad) : Prop where
  F_law_straight : Fun K "_law_straight" "_law_straight" st_law_straight A.f_law_straight A.d_law_straight
  b_law_straight : Binds K A.d_law_straight ["steps", "first"] []
  m_law_straight : mg "_law_straight" = some (.ref A.f_law_straight)
  F_law_same : Fun K "_law_same" "_law_same" st_law_same A.f_law_same A.d_law_same
  b_law_same : Binds K A.d_law_same ["answer", "due"] []
  m_law_same : mg "_law_same" = some (.ref A.f_law_same)
  F_law_source : Fun K "_law_source" "_law_source" st_law_source A.f_law_source A.d_law_source
  b_law_source : Binds K A.d_law_source ["script", "at"] []
  m_law_source : mg "_law_source" = some (.ref A.f_law_source)
  F_law_pick : Fun K "_law_pick" "_law_pick" st_law_pick A.f_law_pick A.d_law_pick
  b_law_pick : Binds K A.d_law_pick ["source", "many"] []
  m_law_pick : mg "_law_pick" = some (.ref A.f_law_pick)
  F_law_renamed : Fun K "_law_renamed" "_law_renamed" st_law_renamed A.f_law_renamed A.d_law_renamed
  b_law_renamed : Binds K A.d_law_renamed ["stock", "couples"] []
  m_law_renamed : mg "_law_renamed" = some (.ref A.f_law_renamed)
  F_law_table : Fun K "_law_table" "_law_table" st_law_table A.f_law_table A.d_law_table
  b_law_table : Binds K A.d_law_table ["stock", "rows", "columns", "share"] []
  m_law_table : mg "_law_table" = some (.ref A.f_law_table)
  F_law_e_drawn_table : Fun K "_law_e_drawn_table" "_law_e_drawn_table" st_law_e_drawn_table A.f_law_e_drawn_table A.d_law_e_drawn_table
  b_law_e_drawn_table : Binds K A.d_law_e_drawn_table ["stock"] []
  m_law_e_drawn_table : mg "_law_e_drawn_table" = some (.ref A.f_law_e_drawn_table)
  F_law_shuffled : Fun K "_law_shuffled" "_law_shuffled" st_law_shuffled A.f_law_shuffled A.d_law_shuffled
  b_law_shuffled : Binds K A.d_law_shuffled ["source", "things"] []
  m_law_shuffled : mg "_law_shuffled" = some (.ref A.f_law_shuffled)
  F_check_bear : Fun K "check_bear" "check_bear" st_check_bear A.f_check_bear A.d_check_bear
  b_check_bear : Binds K A.d_check_bear ["couples", "told"] []
  m_check_bear : mg "check_bear" = some (.ref A.f_check_bear)
  F_check_end : Fun K "check_end" "check_end" st_check_end A.f_check_end A.d_check_end
  b_check_end : Binds K A.d_check_end ["first"] []
  m_check_end : mg "check_end" = some (.ref A.f_check_end)
  F_moves_of : Fun K "moves_of" "moves_of" st_moves_of A.f_moves_of A.d_moves_of
  b_moves_of : Binds K A.d_moves_of ["couples"] []
  m_moves_of : mg "moves_of" = some (.ref A.f_moves_of)
  F_moved : Fun K "moved" "moved" st_moved A.f_moved A.d_moved
  b_moved : Binds K A.d_moved ["moves", "couple", "end"] []
  m_moved : mg "moved" = some (.ref A.f_moved)
  F_steps_left : Fun K "steps_left" "steps_left" st_steps_left A.f_steps_left A.d_steps_left
  b_steps_left : Binds K A.d_steps_left ["moves", "goal"] []
  m_steps_left : mg "steps_left" = some (.ref A.f_steps_left)
  F_walk_of : Fun K "walk_of" "walk_of" st_walk_of A.f_walk_of A.d_walk_of
  b_walk_of : Binds K A.d_walk_of ["couples", "rest", "goal", "first"] []
  m_walk_of : mg "walk_of" = some (.ref A.f_walk_of)
  F_law_e_asked : Fun K "_law_e_asked" "_law_e_asked" st_law_e_asked A.f_law_e_asked A.d_law_e_asked
  b_law_e_asked : Binds K A.d_law_e_asked ["couples", "rest", "goal", "first"] []
  m_law_e_asked : mg "_law_e_asked" = some (.ref A.f_law_e_asked)
  F_law_e_question : Fun K "_law_e_question" "_law_e_question" st_law_e_question A.f_law_e_question A.d_law_e_question
  b_law_e_question : Binds K A.d_law_e_question ["stock", "couples"] []
  m_law_e_question : mg "_law_e_question" = some (.ref A.f_law_e_question)
  F_law_moves : Fun K "_law_moves" "_law_moves" st_law_moves A.f_law_moves A.d_law_moves
  b_law_moves : Binds K A.d_law_moves ["couples", "couple", "end"] []
  m_law_moves : mg "_law_moves" = some (.ref A.f_law_moves)
  F_law_walk : Fun K "_law_walk" "_law_walk" st_law_walk A.f_law_walk A.d_law_walk
  b_law_walk : Binds K A.d_law_walk ["couples", "rest", "goal", "first"] []
  m_law_walk : mg "_law_walk" = some (.ref A.f_law_walk)
  F_law_e_due : Fun K "_law_e_due" "_law_e_due" st_law_e_due A.f_law_e_due A.d_law_e_due
  b_law_e_due : Binds K A.d_law_e_due ["couples", "rest", "goal", "first"] []
  m_law_e_due : mg "_law_e_due" = some (.ref A.f_law_e_due)
  F_law : Fun K "law" "law" st_law A.f_law A.d_law
  b_law : Binds K A.d_law ["script"] []
  m_law : mg "law" = some (.ref A.f_law)
  z_abs : mg "abs" = none
  z_all : mg "all" = none
  z_dict : mg "dict" = none
  z_int : mg "int" = none
  z_isinstance : mg "isinstance" = none
  z_len : mg "len" = none
  z_list : mg "list" = none
  z_range : mg "range" = none
  z_repr : mg "repr" = none
  z_set : mg "set" = none
  z_sorted : mg "sorted" = none
  z_str : mg "str" = none
  z_sum : mg "sum" = none
  z_tuple : mg "tuple" = none
  g_BadRow : mg "BadRow" = some (.ref A.c_BadRow)
  o_BadRow : OexC K A.c_BadRow
  x_BadRow : XfC K A.c_BadRow
  e_BadRow : PySem.W.exmOne K (.ref A.c_BadRow) (.ref A.c_BadRow) = some true
  iC_BadRow : PySem.W.findIn K (.ref A.c_BadRow) "__init__" = some (some (.ref A.fi_BadRow))
  tI_BadRow : PySem.W.typeIn K (.ref A.fi_BadRow) = some (.type "function")
  Fi_BadRow : Fun K "__init__" "BadRow.__init__" sti_BadRow A.fi_BadRow A.di_BadRow
  bi_BadRow : Binds K A.di_BadRow ["self", "what"] []
  n_BadRow_what : PySem.W.findIn K (.ref A.c_BadRow) "what" = some none
theorem bt_abs : bootBuiltins "abs" = some (.builtin "abs") := by decide +kernel
theorem bt_all : bootBuiltins "all" = some (.builtin "all") := by decide +kernel
theorem bt_dict : bootBuiltins "dict" = some (.type "dict") := by decide +kernel
theorem bt_int : bootBuiltins "int" = some (.type "int") := by decide +kernel
theorem bt_isinstance : bootBuiltins "isinstance" = some (.builtin "isinstance") := by decide +kernel
theorem bt_len : bootBuiltins "len" = some (.builtin "len") := by decide +kernel
theorem bt_list : bootBuiltins "list" = some (.type "list") := by decide +kernel
theorem bt_range : bootBuiltins "range" = some (.type "range") := by decide +kernel
theorem bt_repr : bootBuiltins "repr" = some (.builtin "repr") := by decide +kernel
theorem bt_set : bootBuiltins "set" = some (.type "set") := by decide +kernel
theorem bt_sorted : bootBuiltins "sorted" = some (.builtin "sorted") := by decide +kernel
theorem bt_str : bootBuiltins "str" = some (.type "str") := by decide +kernel
theorem bt_sum : bootBuiltins "sum" = some (.builtin "sum") := by decide +kernel
theorem bt_tuple : bootBuiltins "tuple" = some (.type "tuple") := by decide +kernel
section
variable {P : Program} {w : World} {K : PySem.W.Frag} {mg : Str → Option Value} {base : Heap} {A : Ad}
theorem isA_BadRow_ok (T : Tx P w K mg base A) : ∀ c' b, isA_BadRow c' = some b → PySem.W.exmOne K (.ref (A.ca c')) (.ref A.c_BadRow) = some b := fun c' b h => by
  unfold isA_BadRow at h
  split at h
  · rename_i e
    subst e
    cases h
    rw [A.ca_BadRow]
    exact T.e_BadRow
  cases h
theorem oki_BadRow (T : Tx P w K mg base A) : FnOk P w K mg base (L2.CX P w) 1 A.fi_BadRow A.di_BadRow ["self", "what"] (spXi A.c_BadRow ["what"]) :=
  T.Fi_BadRow.okX sci_BadRow (fun vs H Q E h => by obtain ⟨a, xs, rfl, hl, _⟩ := h; rw [List.length_cons, hl]; rfl) (fun cdv A' outer s H vs Q E hr h => ⟨_, (pss_one (ps_ost (pv 0) (pv 1))), xi1 T.o_BadRow T.n_BadRow_what h _⟩)
theorem ok_law_straight (T : Tx P w K mg base A) : FnOk P w K mg base (L2.CX P w) 1 A.f_law_straight A.d_law_straight ["steps", "first"] (spD ⟨K, A.ca, P, w⟩ 2 F_law_straight) :=
  def_ok (ca := A.ca) T.F_law_straight sc_law_straight (by decide) fun cdv A' outer s H vs E hr => by
    exact (bss_cons (bs_set (i := 2) sc_law_straight.nd rfl (by first | exact Or.inl rfl | exact Or.inr rfl) (npin_of (by decide)) (be_lst (ba_cons (be_tup (ba_cons be_int (ba_cons be_int ba_nil rfl) rfl)) ba_nil rfl)) rfl (by first | exact Or.inl rfl | exact Or.inr rfl))
      (bss_cons (bs_for (passes_of rfl) rfl (bi_rng2 rfl T.z_range (ba_cons be_int (ba_cons (be_bin op_addA addS (be_name (pv 0)) be_int) ba_nil rfl) rfl) rfl rfl) (bg_name (pg_name (i := 3) sc_law_straight.nd rfl (by first | exact Or.inl rfl | exact Or.inr rfl)) (npin_of (by decide))) (bss_cons (bs_asg (psTup rfl rfl rfl) (be_ixN hr.units rfl (pv 2) (be_un un_neg negS be_int) fun _ _ => rfl) (bg_tup rfl rfl (bgs_cons (bg_name (pg_name (i := 4) sc_law_straight.nd rfl (by first | exact Or.inl rfl | exact Or.inr rfl)) (npin_of (by decide))) (bgs_cons (bg_name (pg_name (i := 5) sc_law_straight.nd rfl (by first | exact Or.inl rfl | exact Or.inr rfl)) (npin_of (by decide))) bgs_nil rfl) rfl) rfl rfl))
      (bss_one (bs_expr (be_appN (pcApp (pv 2) rfl rfl rfl rfl rfl) (pa_cons (be_if (bt_cmp (op_eqD hr.units) eqS (nomark _) (be_bin op_mod modS (be_callB (pcT call_int1 rfl T.z_int bt_int (by decide) rfl rfl rfl) intS (ba_cons (be_bin op_addA addS (be_name (pv 3)) (be_name (pv 1))) ba_nil rfl)) be_int) be_int) (be_tup (ba_cons (be_bin op_addA addS (be_name (pv 4)) be_int) (ba_cons (be_name (pv 5)) ba_nil rfl) rfl)) (be_tup (ba_cons (be_name (pv 4)) (ba_cons (be_bin op_addA addS (be_name (pv 5)) be_int) ba_nil rfl) rfl))) pa_nil)) rfl))) fun _ => rfl)
      (bss_one (bs_retV (pv 2)))))
theorem ok_law_same (T : Tx P w K mg base A) : ∀ n, FnOk P w K mg base (L2.CX P w) (n + 1) A.f_law_same A.d_law_same ["answer", "due"] (spD ⟨K, A.ca, P, w⟩ 2 (F_law_same n))
  | 0 => def_bad
  | n + 1 => have ih := ok_law_same T n
    def_ok (ca := A.ca) T.F_law_same sc_law_same (by decide) fun cdv A' outer s H vs E hr => by
    exact (bss_cons (bs_if (bt_val (be_callB (pcB call_isiA rfl T.z_isinstance bt_isinstance (by decide) rfl rfl rfl) isiS (ba_io (pv 1) (ba_cons (be_ty rfl T.z_dict bt_dict (by decide) rfl) ba_nil rfl) rfl)) fun _ => rfl) (bss_cons (bs_setLc (i := 2) (own := [("key", 3)]) rfl sc_law_same.nd rfl rfl (npin_of (by decide)) (sw_true rfl rfl rfl (by decide +kernel)) (bi_E rfl (be_name (pv 1))) (blkOk_by (N := N_law_same) (sc := defScope st_law_same) (by decide +kernel)) (by decide) (npins_of (by decide)) (fun _ _ _ _ _ => (bg_name (pg_name (i := 3) sc_law_same.nd rfl (by first | exact Or.inl rfl | exact Or.inr rfl)) (npin_of (by decide)))) (fun _ _ _ _ _ => bts_nil) (fun _ _ _ _ _ => (be_lst (ba_cons (be_name (pv 3)) (ba_cons (be_ixN hr.units rfl (pv 1) (be_name (pv 3)) fun _ _ => rfl) ba_nil rfl) rfl))) fun _ => rfl)
      (bss_cons (bs_if (bt_w (bw_or (bt_not (bt_val (be_callB (pcB call_isiA rfl T.z_isinstance bt_isinstance (by decide) rfl rfl rfl) isiS (ba_io (pv 0) (ba_cons (be_ty rfl T.z_dict bt_dict (by decide) rfl) ba_nil rfl) rfl)) fun _ => rfl)) (bw_or1 (bt_cmp (op_neD hr.units) neS (nomark _) (be_callB (pcB call_len rfl T.z_len bt_len (by decide) rfl rfl rfl) lenS (ba_io (pv 0) ba_nil rfl)) (be_callB (pcB call_len rfl T.z_len bt_len (by decide) rfl rfl rfl) lenS (ba_io (pv 1) ba_nil rfl)))))) (bss_one (bs_ret be_bl)) bss_nil)
      (bss_one (bs_ret (be_callB (pcB (cr_all rfl) rfl T.z_all bt_all (by decide) rfl rfl rfl) allS (ba_cons (be_lc (own := [("key", 3), ("one", 4)]) rfl sc_law_same.nd (bi_E rfl (be_name (pv 2))) (blkOk_by (N := N_law_same) (sc := defScope st_law_same) (by decide +kernel)) (by decide) (npins_of (by decide)) (fun _ _ _ _ _ => (bg_tup rfl rfl (bgs_cons (bg_name (pg_name (i := 3) sc_law_same.nd rfl (by first | exact Or.inl rfl | exact Or.inr rfl)) (npin_of (by decide))) (bgs_cons (bg_name (pg_name (i := 4) sc_law_same.nd rfl (by first | exact Or.inl rfl | exact Or.inr rfl)) (npin_of (by decide))) bgs_nil rfl) rfl) rfl rfl)) (fun _ _ _ _ _ => bts_nil) (fun _ _ _ _ _ => (be_and (be_cmp op_inA inS rfl (be_name (pv 3)) (be_name (pv 0))) (be_one (be_call ih (hr.mono (by omega)) rfl T.m_law_same T.F_law_same.kp T.b_law_same takes0 (ba_cons (be_ixN hr.units rfl (pv 0) (be_name (pv 3)) fun _ _ => rfl) (ba_cons (be_name (pv 4)) ba_nil rfl) rfl) rfl rfl rfl)))) fun _ => rfl) ba_nil rfl)))))) bss_nil)
      (bss_cons (bs_if (bt_val (be_callB (pcB call_isiA rfl T.z_isinstance bt_isinstance (by decide) rfl rfl rfl) isiS (ba_io (pv 1) (ba_cons (be_tup (ba_cons (be_ty rfl T.z_list bt_list (by decide) rfl) (ba_cons (be_ty rfl T.z_tuple bt_tuple (by decide) rfl) ba_nil rfl) rfl)) ba_nil rfl) rfl)) fun _ => rfl) (bss_cons (bs_if (bt_w (bw_or (bt_cmp (op_neD hr.units) neS (nomark _) (be_callB (pcB call_isiA rfl T.z_isinstance bt_isinstance (by decide) rfl rfl rfl) isiS (ba_io (pv 1) (ba_cons (be_ty rfl T.z_list bt_list (by decide) rfl) ba_nil rfl) rfl)) (be_callB (pcB call_isiA rfl T.z_isinstance bt_isinstance (by decide) rfl rfl rfl) isiS (ba_io (pv 0) (ba_cons (be_ty rfl T.z_list bt_list (by decide) rfl) ba_nil rfl) rfl))) (bw_or1 (bt_cmp (op_neD hr.units) neS (nomark _) (be_callB (pcB call_isiA rfl T.z_isinstance bt_isinstance (by decide) rfl rfl rfl) isiS (ba_io (pv 1) (ba_cons (be_ty rfl T.z_tuple bt_tuple (by decide) rfl) ba_nil rfl) rfl)) (be_callB (pcB call_isiA rfl T.z_isinstance bt_isinstance (by decide) rfl rfl rfl) isiS (ba_io (pv 0) (ba_cons (be_ty rfl T.z_tuple bt_tuple (by decide) rfl) ba_nil rfl) rfl)))))) (bss_one (bs_ret be_bl)) bss_nil)
      (bss_one (bs_ret (be_and (be_cmp (op_eqD hr.units) eqS (nomark _) (be_callB (pcB call_len rfl T.z_len bt_len (by decide) rfl rfl rfl) lenS (ba_io (pv 0) ba_nil rfl)) (be_callB (pcB call_len rfl T.z_len bt_len (by decide) rfl rfl rfl) lenS (ba_io (pv 1) ba_nil rfl))) (be_one (be_callB (pcB (cr_all rfl) rfl T.z_all bt_all (by decide) rfl rfl rfl) allS (ba_cons (be_lc (own := [("at", 5)]) rfl sc_law_same.nd (bi_rng1 rfl T.z_range (ba_cons (be_callB (pcB call_len rfl T.z_len bt_len (by decide) rfl rfl rfl) lenS (ba_io (pv 1) ba_nil rfl)) ba_nil rfl) rfl) (blkOk_by (N := N_law_same) (sc := defScope st_law_same) (by decide +kernel)) (by decide) (npins_of (by decide)) (fun _ _ _ _ _ => (bg_name (pg_name (i := 5) sc_law_same.nd rfl (by first | exact Or.inl rfl | exact Or.inr rfl)) (npin_of (by decide)))) (fun _ _ _ _ _ => bts_nil) (fun _ _ _ _ _ => (be_call ih (hr.mono (by omega)) rfl T.m_law_same T.F_law_same.kp T.b_law_same takes0 (ba_cons (be_ixN hr.units rfl (pv 0) (be_name (pv 5)) fun _ _ => rfl) (ba_cons (be_ixN hr.units rfl (pv 1) (be_name (pv 5)) fun _ _ => rfl) ba_nil rfl) rfl) rfl rfl rfl)) fun _ => rfl) ba_nil rfl))))))) bss_nil)
      (bss_one (bs_ret (be_and (be_or (be_cmp op_isN isS (nomark _) (be_name (pv 0)) be_non) (be_one (be_callB (pcB call_isiA rfl T.z_isinstance bt_isinstance (by decide) rfl rfl rfl) isiS (ba_io (pv 0) (ba_cons (be_tup (ba_cons (be_ty rfl T.z_int bt_int (by decide) rfl) (ba_cons (be_ty rfl T.z_str bt_str (by decide) rfl) ba_nil rfl) rfl)) ba_nil rfl) rfl)))) (be_one (be_cmp (op_eqD hr.units) eqS (nomark _) (be_callB (pcB call_repr rfl T.z_repr bt_repr (by decide) rfl rfl rfl) reprS (ba_io (pv 0) ba_nil rfl)) (be_callB (pcB call_repr rfl T.z_repr bt_repr (by decide) rfl rfl rfl) reprS (ba_io (pv 1) ba_nil rfl)))))))))
theorem ok_law_source (T : Tx P w K mg base A) : FnOk P w K mg base (L2.CX P w) 1 A.f_law_source A.d_law_source ["script", "at"] (spD ⟨K, A.ca, P, w⟩ 2 F_law_source) :=
  def_ok (ca := A.ca) T.F_law_source sc_law_source (by decide) fun cdv A' outer s H vs E hr => by
    exact (bss_cons (bs_set (i := 2) sc_law_source.nd rfl (by first | exact Or.inl rfl | exact Or.inr rfl) (npin_of (by decide)) (be_if (bt_cmp op_lt ltS (nomark _) (be_name (pv 1)) (be_callB (pcB call_len rfl T.z_len bt_len (by decide) rfl rfl rfl) lenS (ba_io (pv 0) ba_nil rfl))) (be_callB (pcT call_int1 rfl T.z_int bt_int (by decide) rfl rfl rfl) intS (ba_cons (be_ixN hr.units rfl (pv 0) (be_name (pv 1)) fun _ _ => rfl) ba_nil rfl)) (be_bin op_addA addS (be_bin op_mulW mulS be_int (be_callB (pcB (cr_sum rfl) rfl T.z_sum bt_sum (by decide) rfl rfl rfl) sumS (ba_cons (be_lc (own := [("one", 5)]) rfl sc_law_source.nd (bi_E rfl (be_sl rfl (be_name (pv 0)) bp_none (bp_some be_int))) (blkOk_by (N := N_law_source) (sc := defScope st_law_source) (by decide +kernel)) (by decide) (npins_of (by decide)) (fun _ _ _ _ _ => (bg_name (pg_name (i := 5) sc_law_source.nd rfl (by first | exact Or.inl rfl | exact Or.inr rfl)) (npin_of (by decide)))) (fun _ _ _ _ _ => bts_nil) (fun _ _ _ _ _ => (be_bin op_mod modS (be_callB (pcT call_int1 rfl T.z_int bt_int (by decide) rfl rfl rfl) intS (ba_io (pv 5) ba_nil rfl)) be_int)) fun _ => rfl) ba_nil rfl))) be_int)) rfl (by first | exact Or.inl rfl | exact Or.inr rfl))
      (bss_cons (bs_set (i := 3) sc_law_source.nd rfl (by first | exact Or.inl rfl | exact Or.inr rfl) (npin_of (by decide)) (be_bin op_mod modS (be_callB (pcB call_abs rfl T.z_abs bt_abs (by decide) rfl rfl rfl) absS (ba_io (pv 2) ba_nil rfl)) (be_bin op_mulW mulS (be_bin op_pow powS be_int be_int) (be_bin op_pow powS be_int be_int))) rfl (by first | exact Or.inl rfl | exact Or.inr rfl))
      (bss_cons (bs_set (i := 4) sc_law_source.nd rfl (by first | exact Or.inl rfl | exact Or.inr rfl) (npin_of (by decide)) (be_bin op_mod modS (be_callB (pcT call_int1 rfl T.z_int bt_int (by decide) rfl rfl rfl) intS (ba_cons (be_bin op_addA addS (be_bin op_addA addS (be_bin op_addA addS (be_bin op_mulW mulS be_int (be_name (pv 3))) (be_if (bt_cmp op_lt ltS (nomark _) (be_name (pv 2)) be_int) be_int be_int)) (be_bin op_mulW mulS (be_name (pv 1)) be_int)) be_int) ba_nil rfl)) be_int) rfl (by first | exact Or.inl rfl | exact Or.inr rfl))
      (bss_one (bs_ret (be_lst (ba_cons (be_if (bt_cmp op_ge geS (nomark _) (be_name (pv 3)) (be_bin op_pow powS be_int be_int)) (be_name (pv 3)) be_int) (ba_cons (be_bin op_mod modS (be_callB (pcT call_int1 rfl T.z_int bt_int (by decide) rfl rfl rfl) intS (ba_cons (be_bin op_mulW mulS (be_bin op_addA addS (be_name (pv 4)) be_int) (be_bin op_addA addS (be_name (pv 4)) be_int)) ba_nil rfl)) be_int) (ba_cons (be_name (pv 1)) ba_nil rfl) rfl) rfl)))))))
theorem ok_law_pick (T : Tx P w K mg base A) : FnOk P w K mg base (L2.CX P w) 1 A.f_law_pick A.d_law_pick ["source", "many"] (spD ⟨K, A.ca, P, w⟩ 2 F_law_pick) :=
  def_ok (ca := A.ca) T.F_law_pick sc_law_pick (by decide) fun cdv A' outer s H vs E hr => by
    exact (bss_cons (bs_if (bt_cmp op_gt gtS (nomark _) (be_ixN hr.units rfl (pv 0) be_int fun _ _ => rfl) be_int) (bss_cons (bs_set (i := 2) sc_law_pick.nd rfl (by first | exact Or.inl rfl | exact Or.inr rfl) (npin_of (by decide)) (be_bin op_mod modS (be_callB (pcT call_int1 rfl T.z_int bt_int (by decide) rfl rfl rfl) intS (ba_cons (be_ixN hr.units rfl (pv 0) be_int fun _ _ => rfl) ba_nil rfl)) (be_name (pv 1))) rfl (by first | exact Or.inl rfl | exact Or.inr rfl))
      (bss_cons (bs_setN (psSub hr.units (pv 0) (fun _ => rfl) rfl rfl rfl) (be_bin op_fdivW divS (be_ixN hr.units rfl (pv 0) be_int fun _ _ => rfl) (be_name (pv 1))) be_int)
      (bss_one (bs_retV (pv 2))))) bss_nil)
      (bss_cons (bs_augN rfl (pv 0) be_int iop_add addIS be_int fun _ _ _ => rfl)
      (bss_cons (bs_setN (psSub hr.units (pv 0) (fun _ => rfl) rfl rfl rfl) (be_bin op_mod modS (be_callB (pcT call_int1 rfl T.z_int bt_int (by decide) rfl rfl rfl) intS (ba_cons (be_bin op_addA addS (be_bin op_mulW mulS (be_ixN hr.units rfl (pv 0) be_int fun _ _ => rfl) be_int) (be_bin op_mulW mulS (be_ixN hr.units rfl (pv 0) be_int fun _ _ => rfl) be_int)) ba_nil rfl)) be_int) be_int)
      (bss_one (bs_ret (be_bin op_mod modS (be_bin op_fdivW divS (be_bin op_mod modS (be_callB (pcT call_int1 rfl T.z_int bt_int (by decide) rfl rfl rfl) intS (ba_cons (be_bin op_addA addS (be_bin op_mulW mulS (be_ixN hr.units rfl (pv 0) be_int fun _ _ => rfl) be_int) (be_bin op_mulW mulS (be_ixN hr.units rfl (pv 0) be_int fun _ _ => rfl) be_int)) ba_nil rfl)) be_int) be_int) (be_name (pv 1))))))))
theorem ok_law_renamed (T : Tx P w K mg base A) : FnOk P w K mg base (L2.CX P w) 2 A.f_law_renamed A.d_law_renamed ["stock", "couples"] (spD ⟨K, A.ca, P, w⟩ 2 F_law_renamed) :=
  def_ok (ca := A.ca) T.F_law_renamed sc_law_renamed (by decide) fun cdv A' outer s H vs E hr => by
    exact (bss_cons (bs_set (i := 2) sc_law_renamed.nd rfl (by first | exact Or.inl rfl | exact Or.inr rfl) (npin_of (by decide)) (be_lst (ba_cons (be_bin op_addA addS be_int (be_call (ok_law_pick T) (hr.mono (by decide)) rfl T.m_law_pick T.F_law_pick.kp T.b_law_pick (takes_of rfl rfl rfl rfl) (ba_io (pv 0) (ba_cons be_int ba_nil rfl) rfl) rfl rfl rfl)) (ba_cons (be_bin op_addA addS be_int (be_call (ok_law_pick T) (hr.mono (by decide)) rfl T.m_law_pick T.F_law_pick.kp T.b_law_pick (takes_of rfl rfl rfl rfl) (ba_io (pv 0) (ba_cons be_int ba_nil rfl) rfl) rfl rfl rfl)) ba_nil rfl) rfl)) rfl (by first | exact Or.inl rfl | exact Or.inr rfl))
      (bss_cons (bs_set (i := 3) sc_law_renamed.nd rfl (by first | exact Or.inl rfl | exact Or.inr rfl) (npin_of (by decide)) (be_lst (ba_cons (be_call (ok_law_pick T) (hr.mono (by decide)) rfl T.m_law_pick T.F_law_pick.kp T.b_law_pick (takes_of rfl rfl rfl rfl) (ba_io (pv 0) (ba_cons be_int ba_nil rfl) rfl) rfl rfl rfl) (ba_cons (be_call (ok_law_pick T) (hr.mono (by decide)) rfl T.m_law_pick T.F_law_pick.kp T.b_law_pick (takes_of rfl rfl rfl rfl) (ba_io (pv 0) (ba_cons be_int ba_nil rfl) rfl) rfl rfl rfl) ba_nil rfl) rfl)) rfl (by first | exact Or.inl rfl | exact Or.inr rfl))
      (bss_one (bs_ret (be_lc (own := [("i", 4), ("j", 5)]) rfl sc_law_renamed.nd (bi_E rfl (be_name (pv 1))) (blkOk_by (N := N_law_renamed) (sc := defScope st_law_renamed) (by decide +kernel)) (by decide) (npins_of (by decide)) (fun _ _ _ _ _ => (bg_tup rfl rfl (bgs_cons (bg_name (pg_name (i := 4) sc_law_renamed.nd rfl (by first | exact Or.inl rfl | exact Or.inr rfl)) (npin_of (by decide))) (bgs_cons (bg_name (pg_name (i := 5) sc_law_renamed.nd rfl (by first | exact Or.inl rfl | exact Or.inr rfl)) (npin_of (by decide))) bgs_nil rfl) rfl) rfl rfl)) (fun _ _ _ _ _ => bts_nil) (fun _ _ _ _ _ => (be_tup (ba_cons (be_bin op_mod modS (be_callB (pcT call_int1 rfl T.z_int bt_int (by decide) rfl rfl rfl) intS (ba_cons (be_bin op_addA addS (be_bin op_mulW mulS (be_name (pv 4)) (be_ixN hr.units rfl (pv 2) be_int fun _ _ => rfl)) (be_ixN hr.units rfl (pv 3) be_int fun _ _ => rfl)) ba_nil rfl)) be_int) (ba_cons (be_bin op_mod modS (be_callB (pcT call_int1 rfl T.z_int bt_int (by decide) rfl rfl rfl) intS (ba_cons (be_bin op_addA addS (be_bin op_mulW mulS (be_name (pv 5)) (be_ixN hr.units rfl (pv 2) be_int fun _ _ => rfl)) (be_ixN hr.units rfl (pv 3) be_int fun _ _ => rfl)) ba_nil rfl)) be_int) ba_nil rfl) rfl))) fun _ => rfl)))))
theorem ok_law_table (T : Tx P w K mg base A) : FnOk P w K mg base (L2.CX P w) 2 A.f_law_table A.d_law_table ["stock", "rows", "columns", "share"] (spD ⟨K, A.ca, P, w⟩ 4 F_law_table) :=
  def_ok (ca := A.ca) T.F_law_table sc_law_table (by decide) fun cdv A' outer s H vs E hr => by
    exact (bss_cons (bs_set (i := 4) sc_law_table.nd rfl (by first | exact Or.inl rfl | exact Or.inr rfl) (npin_of (by decide)) (be_lst ba_nil) rfl (by first | exact Or.inl rfl | exact Or.inr rfl))
      (bss_cons (bs_for (passes_of rfl) rfl (bi_rng1 rfl T.z_range (ba_cons (be_name (pv 1)) ba_nil rfl) rfl) (bg_name (pg_name (i := 5) sc_law_table.nd rfl (by first | exact Or.inl rfl | exact Or.inr rfl)) (npin_of (by decide))) (bss_one (bs_set (i := 4) sc_law_table.nd rfl (by first | exact Or.inl rfl | exact Or.inr rfl) (npin_of (by decide)) (be_bin op_addA addS (be_name (pv 4)) (be_lc (own := [("j", 6)]) rfl sc_law_table.nd (bi_rng1 rfl T.z_range (ba_cons (be_name (pv 2)) ba_nil rfl) rfl) (blkOk_by (N := N_law_table) (sc := defScope st_law_table) (by decide +kernel)) (by decide) (npins_of (by decide)) (fun _ _ _ _ _ => (bg_name (pg_name (i := 6) sc_law_table.nd rfl (by first | exact Or.inl rfl | exact Or.inr rfl)) (npin_of (by decide)))) (fun _ _ _ _ _ => (bts_one (bt_cmp op_lt ltS (nomark _) (be_call (ok_law_pick T) (hr.mono (by decide)) rfl T.m_law_pick T.F_law_pick.kp T.b_law_pick takes0 (ba_io (pv 0) (ba_cons be_int ba_nil rfl) rfl) rfl rfl rfl) (be_name (pv 3))))) (fun _ _ _ _ _ => (be_tup (ba_cons (be_name (pv 5)) (ba_cons (be_name (pv 6)) ba_nil rfl) rfl))) fun _ => rfl)) rfl (by first | exact Or.inl rfl | exact Or.inr rfl))) fun _ => rfl)
      (bss_one (bs_ret (be_if (bt_cmp op_gt gtS (nomark _) (be_callB (pcB call_len rfl T.z_len bt_len (by decide) rfl rfl rfl) lenS (ba_io (pv 4) ba_nil rfl)) be_int) (be_name (pv 4)) (be_lst (ba_cons (be_tup (ba_cons (be_call (ok_law_pick T) (hr.mono (by decide)) rfl T.m_law_pick T.F_law_pick.kp T.b_law_pick (takes_of rfl rfl rfl rfl) (ba_io (pv 0) (ba_cons (be_name (pv 1)) ba_nil rfl) rfl) rfl rfl rfl) (ba_cons (be_call (ok_law_pick T) (hr.mono (by decide)) rfl T.m_law_pick T.F_law_pick.kp T.b_law_pick (takes_of rfl rfl rfl rfl) (ba_io (pv 0) (ba_cons (be_name (pv 2)) ba_nil rfl) rfl) rfl rfl rfl) ba_nil rfl) rfl)) ba_nil rfl)))))))
theorem ok_law_e_drawn_table (T : Tx P w K mg base A) : FnOk P w K mg base (L2.CX P w) 3 A.f_law_e_drawn_table A.d_law_e_drawn_table ["stock"] (spD ⟨K, A.ca, P, w⟩ 1 F_law_e_drawn_table) :=
  def_ok (ca := A.ca) T.F_law_e_drawn_table sc_law_e_drawn_table (by decide) fun cdv A' outer s H vs E hr => by
    exact (bss_cons (bs_if (bt_cmp (op_eqD hr.units) eqS (nomark _) (be_call (ok_law_pick T) (hr.mono (by decide)) rfl T.m_law_pick T.F_law_pick.kp T.b_law_pick (takes_of rfl rfl rfl rfl) (ba_io (pv 0) (ba_cons be_int ba_nil rfl) rfl) rfl rfl rfl) be_int) (bss_cons (bs_set (i := 1) sc_law_e_drawn_table.nd rfl (by first | exact Or.inl rfl | exact Or.inr rfl) (npin_of (by decide)) (be_call (ok_law_pick T) (hr.mono (by decide)) rfl T.m_law_pick T.F_law_pick.kp T.b_law_pick (takes_of rfl rfl rfl rfl) (ba_io (pv 0) (ba_cons be_int ba_nil rfl) rfl) rfl rfl rfl) rfl (by first | exact Or.inl rfl | exact Or.inr rfl))
      (bss_cons (bs_set (i := 2) sc_law_e_drawn_table.nd rfl (by first | exact Or.inl rfl | exact Or.inr rfl) (npin_of (by decide)) (be_call (ok_law_straight T) (hr.mono (by decide)) rfl T.m_law_straight T.F_law_straight.kp T.b_law_straight (takes_of rfl rfl rfl rfl) (ba_cons (be_name (pv 1)) (ba_cons (be_call (ok_law_pick T) (hr.mono (by decide)) rfl T.m_law_pick T.F_law_pick.kp T.b_law_pick (takes_of rfl rfl rfl rfl) (ba_io (pv 0) (ba_cons be_int ba_nil rfl) rfl) rfl rfl rfl) ba_nil rfl) rfl) rfl rfl rfl) rfl (by first | exact Or.inl rfl | exact Or.inr rfl))
      (bss_one (bs_for (passes_of rfl) rfl (bi_rng1 rfl T.z_range (ba_cons (be_call (ok_law_pick T) (hr.mono (by decide)) rfl T.m_law_pick T.F_law_pick.kp T.b_law_pick (takes_of rfl rfl rfl rfl) (ba_io (pv 0) (ba_cons be_int ba_nil rfl) rfl) rfl rfl rfl) ba_nil rfl) rfl) (bg_name (pg_name (i := 3) sc_law_e_drawn_table.nd rfl (by first | exact Or.inl rfl | exact Or.inr rfl)) (npin_of (by decide))) (bss_cons (bs_set (i := 4) sc_law_e_drawn_table.nd rfl (by first | exact Or.inl rfl | exact Or.inr rfl) (npin_of (by decide)) (be_tup (ba_cons (be_call (ok_law_pick T) (hr.mono (by decide)) rfl T.m_law_pick T.F_law_pick.kp T.b_law_pick (takes_of rfl rfl rfl rfl) (ba_io (pv 0) (ba_cons be_int ba_nil rfl) rfl) rfl rfl rfl) (ba_cons (be_call (ok_law_pick T) (hr.mono (by decide)) rfl T.m_law_pick T.F_law_pick.kp T.b_law_pick (takes_of rfl rfl rfl rfl) (ba_io (pv 0) (ba_cons be_int ba_nil rfl) rfl) rfl rfl rfl) ba_nil rfl) rfl)) rfl (by first | exact Or.inl rfl | exact Or.inr rfl))
      (bss_one (bs_if (bt_notInL (u65_of hr) rfl rfl (be_name (pv 4)) (bl_name (pv 2))) (bss_one (bs_expr (be_appN (pcApp (pv 2) rfl rfl rfl rfl rfl) (pa_cons (be_name (pv 4)) pa_nil)) rfl)) bss_nil))) fun _ => rfl)))) (bss_one (bs_set (i := 2) sc_law_e_drawn_table.nd rfl (by first | exact Or.inl rfl | exact Or.inr rfl) (npin_of (by decide)) (be_call (ok_law_table T) (hr.mono (by decide)) rfl T.m_law_table T.F_law_table.kp T.b_law_table (takes_of rfl rfl rfl rfl) (ba_io (pv 0) (ba_cons (be_bin op_addA addS be_int (be_call (ok_law_pick T) (hr.mono (by decide)) rfl T.m_law_pick T.F_law_pick.kp T.b_law_pick (takes_of rfl rfl rfl rfl) (ba_io (pv 0) (ba_cons be_int ba_nil rfl) rfl) rfl rfl rfl)) (ba_cons (be_bin op_addA addS be_int (be_call (ok_law_pick T) (hr.mono (by decide)) rfl T.m_law_pick T.F_law_pick.kp T.b_law_pick (takes_of rfl rfl rfl rfl) (ba_io (pv 0) (ba_cons be_int ba_nil rfl) rfl) rfl rfl rfl)) (ba_cons (be_bin op_addA addS be_int (be_call (ok_law_pick T) (hr.mono (by decide)) rfl T.m_law_pick T.F_law_pick.kp T.b_law_pick (takes_of rfl rfl rfl rfl) (ba_io (pv 0) (ba_cons be_int ba_nil rfl) rfl) rfl rfl rfl)) ba_nil rfl) rfl) rfl) rfl) rfl rfl rfl) rfl (by first | exact Or.inl rfl | exact Or.inr rfl))))
      (bss_one (bs_ret (be_call (ok_law_renamed T) (hr.mono (by decide)) rfl T.m_law_renamed T.F_law_renamed.kp T.b_law_renamed (takes_of rfl rfl rfl rfl) (ba_io (pv 0) (ba_cons (be_name (pv 2)) ba_nil rfl) rfl) rfl rfl rfl))))
theorem ok_law_shuffled (T : Tx P w K mg base A) : FnOk P w K mg base (L2.CX P w) 2 A.f_law_shuffled A.d_law_shuffled ["source", "things"] (spD ⟨K, A.ca, P, w⟩ 2 F_law_shuffled) :=
  def_ok (ca := A.ca) T.F_law_shuffled sc_law_shuffled (by decide) fun cdv A' outer s H vs E hr => by
    exact (bss_cons (bs_set (i := 2) sc_law_shuffled.nd rfl (by first | exact Or.inl rfl | exact Or.inr rfl) (npin_of (by decide)) (be_callF (pcT call_list_of rfl T.z_list bt_list (by decide) rfl rfl rfl) listS (ba_cons (be_name (pv 1)) ba_nil rfl)) rfl (by first | exact Or.inl rfl | exact Or.inr rfl))
      (bss_cons (bs_set (i := 3) sc_law_shuffled.nd rfl (by first | exact Or.inl rfl | exact Or.inr rfl) (npin_of (by decide)) (be_lst ba_nil) rfl (by first | exact Or.inl rfl | exact Or.inr rfl))
      (bss_cons (bs_while (passes_of rfl) (bt_cmp op_gt gtS (nomark _) (be_callB (pcB call_len rfl T.z_len bt_len (by decide) rfl rfl rfl) lenS (ba_io (pv 2) ba_nil rfl)) be_int) (bss_one (bs_expr (be_appN (pcApp (pv 3) rfl rfl rfl rfl rfl) (pa_cons (be_popN (pcPop (pv 2) rfl rfl rfl rfl rfl) (pa_cons (be_call (ok_law_pick T) (hr.mono (by decide)) rfl T.m_law_pick T.F_law_pick.kp T.b_law_pick (takes_of rfl rfl rfl rfl) (ba_io (pv 0) (ba_cons (be_callB (pcB call_len rfl T.z_len bt_len (by decide) rfl rfl rfl) lenS (ba_io (pv 2) ba_nil rfl)) ba_nil rfl) rfl) rfl rfl rfl) pa_nil)) pa_nil)) rfl)))
      (bss_one (bs_retV (pv 3))))))
theorem ok_check_bear (T : Tx P w K mg base A) : FnOk P w K mg base (L2.CX P w) 4 A.f_check_bear A.d_check_bear ["couples", "told"] (spD ⟨K, A.ca, P, w⟩ 2 F_check_bear) :=
  def_ok (ca := A.ca) T.F_check_bear sc_check_bear (by decide) fun cdv A' outer s H vs E hr => by
    exact (bss_cons (bs_set (i := 2) sc_check_bear.nd rfl (by first | exact Or.inl rfl | exact Or.inr rfl) (npin_of (by decide)) (be_callF (pcT (cr_setOfT rfl hr.units) rfl T.z_set bt_set (by decide) rfl rfl rfl) setOfS (ba_cons (be_lc (own := [("couple", 3)]) rfl sc_check_bear.nd (bi_E rfl (be_name (pv 0))) (blkOk_by (N := N_check_bear) (sc := defScope st_check_bear) (by decide +kernel)) (by decide) (npins_of (by decide)) (fun _ _ _ _ _ => (bg_name (pg_name (i := 3) sc_check_bear.nd rfl (by first | exact Or.inl rfl | exact Or.inr rfl)) (npin_of (by decide)))) (fun _ _ _ _ _ => bts_nil) (fun _ _ _ _ _ => (be_callF (pcT call_tuple_of rfl T.z_tuple bt_tuple (by decide) rfl rfl rfl) tupleS (ba_cons (be_name (pv 3)) ba_nil rfl))) fun _ => rfl) ba_nil rfl)) rfl (by first | exact Or.inl rfl | exact Or.inr rfl))
      (bss_one (bs_for (passes_of rfl) rfl (bi_E rfl (be_name (pv 1))) (bg_name (pg_name (i := 3) sc_check_bear.nd rfl (by first | exact Or.inl rfl | exact Or.inr rfl)) (npin_of (by decide))) (bss_one (bs_if (bt_notInL (u65_of hr) rfl rfl (be_callF (pcT call_tuple_of rfl T.z_tuple bt_tuple (by decide) rfl rfl rfl) tupleS (ba_cons (be_name (pv 3)) ba_nil rfl)) (bl_name (pv 2))) (bss_one (bs_raise rfl (takes_of rfl rfl rfl rfl) (A.ca_BadRow) T.o_BadRow T.iC_BadRow T.tI_BadRow (oki_BadRow T) (hr.mono (by decide)) T.bi_BadRow rfl T.g_BadRow (ba_cons be_str ba_nil rfl) rfl rfl rfl)) bss_nil)) fun _ => rfl)))
theorem ok_check_end (T : Tx P w K mg base A) : FnOk P w K mg base (L2.CX P w) 4 A.f_check_end A.d_check_end ["first"] (spD ⟨K, A.ca, P, w⟩ 1 F_check_end) :=
  def_ok (ca := A.ca) T.F_check_end sc_check_end (by decide) fun cdv A' outer s H vs E hr => by
    exact (bss_one (bs_if (bt_cmp op_notInA notInS rfl (be_name (pv 0)) (be_tup (ba_cons be_int (ba_cons be_int ba_nil rfl) rfl))) (bss_one (bs_raise rfl (takes_of rfl rfl rfl rfl) (A.ca_BadRow) T.o_BadRow T.iC_BadRow T.tI_BadRow (oki_BadRow T) (hr.mono (by decide)) T.bi_BadRow rfl T.g_BadRow (ba_cons be_str ba_nil rfl) rfl rfl rfl)) bss_nil))
theorem ok_moves_of (T : Tx P w K mg base A) : FnOk P w K mg base (L2.CX P w) 1 A.f_moves_of A.d_moves_of ["couples"] (spD ⟨K, A.ca, P, w⟩ 1 F_moves_of) :=
  def_ok (ca := A.ca) T.F_moves_of sc_moves_of (by decide) fun cdv A' outer s H vs E hr => by
    exact (bss_cons (bs_set (i := 1) sc_moves_of.nd rfl (by first | exact Or.inl rfl | exact Or.inr rfl) (npin_of (by decide)) (be_lst (ba_cons be_dk0 (ba_cons be_dk0 ba_nil rfl) rfl)) rfl (by first | exact Or.inl rfl | exact Or.inr rfl))
      (bss_cons (bs_for (passes_of rfl) rfl (bi_E rfl (be_name (pv 0))) (bg_name (pg_name (i := 2) sc_moves_of.nd rfl (by first | exact Or.inl rfl | exact Or.inr rfl)) (npin_of (by decide))) (bss_one (bs_for (passes_of rfl) rfl (bi_E rfl (be_tup (ba_cons be_int (ba_cons be_int ba_nil rfl) rfl))) (bg_name (pg_name (i := 3) sc_moves_of.nd rfl (by first | exact Or.inl rfl | exact Or.inr rfl)) (npin_of (by decide))) (bss_sdl (i := 1) (j := 4) (psSdl hr.units rfl sc_moves_of.nd rfl (by first | exact Or.inl rfl | exact Or.inr rfl) (pv 1) (bq_name (pv 3)) (fun _ _ => rfl) (bq_l (bl_ix hr.units rfl (bl_name (pv 2)) (bq_bin op_sub subS bq_int (bq_name (pv 3))) fun _ _ => rfl)) ⟨rfl, rfl, rfl, rfl⟩ rfl (by first | exact Or.inl rfl | exact Or.inr rfl)) (npin_of (by decide)) (fun r u => (bss_one (bs_if (bt_notInL (u65_of hr) rfl rfl (be_ixN hr.units rfl (pv 2) (be_name (pv 3)) fun _ _ => rfl) (bl_name (pv 4))) (bss_one (bs_expr (be_appN (pcApp (pv 4) rfl rfl rfl rfl rfl) (pa_cons (be_ixN hr.units rfl (pv 2) (be_name (pv 3)) fun _ _ => rfl) pa_nil)) rfl)) bss_nil)))) fun _ => rfl)) fun _ => rfl)
      (bss_one (bs_ret (be_lc (own := [("table", 5)]) rfl sc_moves_of.nd (bi_E rfl (be_name (pv 1))) (blkOk_by (N := N_moves_of) (sc := defScope st_moves_of) (by decide +kernel)) (by decide) (npins_of (by decide)) (fun _ _ _ _ _ => (bg_name (pg_name (i := 5) sc_moves_of.nd rfl (by first | exact Or.inl rfl | exact Or.inr rfl)) (npin_of (by decide)))) (fun _ _ _ _ _ => bts_nil) (fun _ _ _ _ _ => (be_dc (own := [("deed", 6)]) rfl sc_moves_of.nd (bi_keys rfl (be_name (pv 5))) (blkOk_by (N := N_moves_of) (by rfl)) (by decide) (npins_of (by decide)) (fun _ _ _ _ _ => (bg_name (pg_name (i := 6) sc_moves_of.nd rfl (by first | exact Or.inl rfl | exact Or.inr rfl)) (npin_of (by decide)))) (fun _ _ _ _ _ => bts_nil) (fun _ _ _ _ _ => (be_name (pv 6))) (fun _ _ _ _ _ => (be_callF (pcB cr_sortedI rfl T.z_sorted bt_sorted (by decide) rfl rfl rfl) sortedS (ba_cons (be_ixN hr.units rfl (pv 5) (be_name (pv 6)) fun _ _ => rfl) ba_nil rfl))) fun _ => rfl)) fun _ => rfl)))))
theorem ok_moved (T : Tx P w K mg base A) : FnOk P w K mg base (L2.CX P w) 1 A.f_moved A.d_moved ["moves", "couple", "end"] (spD ⟨K, A.ca, P, w⟩ 3 F_moved) :=
  def_ok (ca := A.ca) T.F_moved sc_moved (by decide) fun cdv A' outer s H vs E hr => by
    exact (bss_cons (bs_set (i := 3) sc_moved.nd rfl (by first | exact Or.inl rfl | exact Or.inr rfl) (npin_of (by decide)) (be_getA rfl (pcGet hr.units rfl rfl rfl rfl rfl) (be_ixN hr.units rfl (pv 0) (be_name (pv 2)) fun _ _ => rfl) (ba_cons (be_ixN hr.units rfl (pv 1) (be_bin op_sub subS be_int (be_name (pv 2))) fun _ _ => rfl) (ba_cons (be_lst ba_nil) ba_nil rfl) rfl)) rfl (by first | exact Or.inl rfl | exact Or.inr rfl))
      (bss_cons (bs_if (bt_cmp (op_eqD hr.units) eqS (nomark _) (be_name (pv 2)) be_int) (bss_one (bs_ret (be_lc (own := [("deed", 4)]) rfl sc_moved.nd (bi_E rfl (be_name (pv 3))) (blkOk_by (N := N_moved) (sc := defScope st_moved) (by decide +kernel)) (by decide) (npins_of (by decide)) (fun _ _ _ _ _ => (bg_name (pg_name (i := 4) sc_moved.nd rfl (by first | exact Or.inl rfl | exact Or.inr rfl)) (npin_of (by decide)))) (fun _ _ _ _ _ => bts_nil) (fun _ _ _ _ _ => (be_tup (ba_cons (be_name (pv 4)) (ba_cons (be_ixN hr.units rfl (pv 1) be_int fun _ _ => rfl) ba_nil rfl) rfl))) fun _ => rfl))) bss_nil)
      (bss_one (bs_ret (be_lc (own := [("deed", 4)]) rfl sc_moved.nd (bi_E rfl (be_name (pv 3))) (blkOk_by (N := N_moved) (sc := defScope st_moved) (by decide +kernel)) (by decide) (npins_of (by decide)) (fun _ _ _ _ _ => (bg_name (pg_name (i := 4) sc_moved.nd rfl (by first | exact Or.inl rfl | exact Or.inr rfl)) (npin_of (by decide)))) (fun _ _ _ _ _ => bts_nil) (fun _ _ _ _ _ => (be_tup (ba_cons (be_ixN hr.units rfl (pv 1) be_int fun _ _ => rfl) (ba_cons (be_name (pv 4)) ba_nil rfl) rfl))) fun _ => rfl)))))
theorem ok_steps_left (T : Tx P w K mg base A) : FnOk P w K mg base (L2.CX P w) 2 A.f_steps_left A.d_steps_left ["moves", "goal"] (spD ⟨K, A.ca, P, w⟩ 2 F_steps_left) :=
  def_ok (ca := A.ca) T.F_steps_left sc_steps_left (by decide) fun cdv A' outer s H vs E hr => by
    exact (bss_cons (bs_set (i := 2) sc_steps_left.nd rfl (by first | exact Or.inl rfl | exact Or.inr rfl) (npin_of (by decide)) (be_dispN hr.units rfl (bps_cons (be_tup (ba_cons (be_name (pv 1)) (ba_cons be_int ba_nil rfl) rfl)) be_int (bps_cons (be_tup (ba_cons (be_name (pv 1)) (ba_cons be_int ba_nil rfl) rfl)) be_int bps_nil)) rfl rfl (by simp) (by decide)) rfl (by first | exact Or.inl rfl | exact Or.inr rfl))
      (bss_cons (bs_set (i := 3) sc_steps_left.nd rfl (by first | exact Or.inl rfl | exact Or.inr rfl) (npin_of (by decide)) (be_lst (ba_cons (be_tup (ba_cons (be_name (pv 1)) (ba_cons be_int ba_nil rfl) rfl)) (ba_cons (be_tup (ba_cons (be_name (pv 1)) (ba_cons be_int ba_nil rfl) rfl)) ba_nil rfl) rfl)) rfl (by first | exact Or.inl rfl | exact Or.inr rfl))
      (bss_cons (bs_set (i := 4) sc_steps_left.nd rfl (by first | exact Or.inl rfl | exact Or.inr rfl) (npin_of (by decide)) be_int rfl (by first | exact Or.inl rfl | exact Or.inr rfl))
      (bss_cons (bs_while (passes_of rfl) (bt_tru rfl (be_name (pv 3)) fun _ => rfl) (bss_cons (bs_aug (i := 4) sc_steps_left.nd rfl (by first | exact Or.inl rfl | exact Or.inr rfl) (npin_of (by decide)) iop_add addIS be_int (by first | exact Or.inl rfl | exact Or.inr rfl))
      (bss_cons (bs_set (i := 5) sc_steps_left.nd rfl (by first | exact Or.inl rfl | exact Or.inr rfl) (npin_of (by decide)) (be_lst ba_nil) rfl (by first | exact Or.inl rfl | exact Or.inr rfl))
      (bss_cons (bs_for (passes_of rfl) rfl (bi_E rfl (be_name (pv 3))) (bg_tup rfl rfl (bgs_cons (bg_name (pg_name (i := 6) sc_steps_left.nd rfl (by first | exact Or.inl rfl | exact Or.inr rfl)) (npin_of (by decide))) (bgs_cons (bg_name (pg_name (i := 7) sc_steps_left.nd rfl (by first | exact Or.inl rfl | exact Or.inr rfl)) (npin_of (by decide))) bgs_nil rfl) rfl) rfl rfl) (bss_one (bs_for (passes_of rfl) rfl (bi_E rfl (be_call (ok_moved T) (hr.mono (by decide)) rfl T.m_moved T.F_moved.kp T.b_moved (takes_of rfl rfl rfl rfl) (ba_cons (be_name (pv 0)) (ba_cons (be_name (pv 6)) (ba_cons (be_bin op_sub subS be_int (be_name (pv 7))) ba_nil rfl) rfl) rfl) rfl rfl rfl)) (bg_name (pg_name (i := 8) sc_steps_left.nd rfl (by first | exact Or.inl rfl | exact Or.inr rfl)) (npin_of (by decide))) (bss_cons (bs_set (i := 9) sc_steps_left.nd rfl (by first | exact Or.inl rfl | exact Or.inr rfl) (npin_of (by decide)) (be_tup (ba_cons (be_name (pv 8)) (ba_cons (be_bin op_sub subS be_int (be_name (pv 7))) ba_nil rfl) rfl)) rfl (by first | exact Or.inl rfl | exact Or.inr rfl))
      (bss_one (bs_if (bt_notInL (u65_of hr) rfl rfl (be_name (pv 9)) (bl_name (pv 2))) (bss_cons (bs_setN (psSub hr.units (pv 2) (fun _ => rfl) rfl rfl rfl) (be_name (pv 4)) (be_name (pv 9)))
      (bss_one (bs_expr (be_appN (pcApp (pv 5) rfl rfl rfl rfl rfl) (pa_cons (be_name (pv 9)) pa_nil)) rfl))) bss_nil))) fun _ => rfl)) fun _ => rfl)
      (bss_one (bs_set (i := 3) sc_steps_left.nd rfl (by first | exact Or.inl rfl | exact Or.inr rfl) (npin_of (by decide)) (be_name (pv 5)) rfl (by first | exact Or.inl rfl | exact Or.inr rfl)))))))
      (bss_one (bs_retV (pv 2)))))))
theorem ok_walk_of (T : Tx P w K mg base A) : FnOk P w K mg base (L2.CX P w) 5 A.f_walk_of A.d_walk_of ["couples", "rest", "goal", "first"] (spD ⟨K, A.ca, P, w⟩ 4 F_walk_of) :=
  def_ok (ca := A.ca) T.F_walk_of sc_walk_of (by decide) fun cdv A' outer s H vs E hr => by
    exact (bss_cons (bs_expr (be_call (ok_check_bear T) (hr.mono (by decide)) rfl T.m_check_bear T.F_check_bear.kp T.b_check_bear (takes_of rfl rfl rfl rfl) (ba_cons (be_name (pv 0)) (ba_cons (be_lst (ba_cons (be_name (pv 1)) (ba_cons (be_name (pv 2)) ba_nil rfl) rfl)) ba_nil rfl) rfl) rfl rfl rfl) rfl)
      (bss_cons (bs_expr (be_call (ok_check_end T) (hr.mono (by decide)) rfl T.m_check_end T.F_check_end.kp T.b_check_end (takes_of rfl rfl rfl rfl) (ba_cons (be_name (pv 3)) ba_nil rfl) rfl rfl rfl) rfl)
      (bss_cons (bs_set (i := 4) sc_walk_of.nd rfl (by first | exact Or.inl rfl | exact Or.inr rfl) (npin_of (by decide)) (be_call (ok_moves_of T) (hr.mono (by decide)) rfl T.m_moves_of T.F_moves_of.kp T.b_moves_of (takes_of rfl rfl rfl rfl) (ba_cons (be_name (pv 0)) ba_nil rfl) rfl rfl rfl) rfl (by first | exact Or.inl rfl | exact Or.inr rfl))
      (bss_cons (bs_set (i := 5) sc_walk_of.nd rfl (by first | exact Or.inl rfl | exact Or.inr rfl) (npin_of (by decide)) (be_call (ok_steps_left T) (hr.mono (by decide)) rfl T.m_steps_left T.F_steps_left.kp T.b_steps_left (takes_of rfl rfl rfl rfl) (ba_cons (be_name (pv 4)) (ba_cons (be_callF (pcT call_tuple_of rfl T.z_tuple bt_tuple (by decide) rfl rfl rfl) tupleS (ba_cons (be_name (pv 2)) ba_nil rfl)) ba_nil rfl) rfl) rfl rfl rfl) rfl (by first | exact Or.inl rfl | exact Or.inr rfl))
      (bss_cons (bs_set (i := 6) sc_walk_of.nd rfl (by first | exact Or.inl rfl | exact Or.inr rfl) (npin_of (by decide)) (be_callF (pcT call_tuple_of rfl T.z_tuple bt_tuple (by decide) rfl rfl rfl) tupleS (ba_cons (be_name (pv 1)) ba_nil rfl)) rfl (by first | exact Or.inl rfl | exact Or.inr rfl))
      (bss_cons (bs_set (i := 7) sc_walk_of.nd rfl (by first | exact Or.inl rfl | exact Or.inr rfl) (npin_of (by decide)) (be_name (pv 3)) rfl (by first | exact Or.inl rfl | exact Or.inr rfl))
      (bss_cons (bs_if (bt_notInL (u65_of hr) rfl rfl (be_tup (ba_cons (be_name (pv 6)) (ba_cons (be_name (pv 7)) ba_nil rfl) rfl)) (bl_name (pv 5))) (bss_one (bs_ret be_non)) bss_nil)
      (bss_cons (bs_set (i := 8) sc_walk_of.nd rfl (by first | exact Or.inl rfl | exact Or.inr rfl) (npin_of (by decide)) (be_lst (ba_cons (be_name (pv 6)) ba_nil rfl)) rfl (by first | exact Or.inl rfl | exact Or.inr rfl))
      (bss_cons (bs_while (passes_of rfl) (bt_cmp op_gt gtS (nomark _) (be_ixN hr.units rfl (pv 5) (be_tup (ba_cons (be_name (pv 6)) (ba_cons (be_name (pv 7)) ba_nil rfl) rfl)) fun _ _ => rfl) be_int) (bss_cons (bs_set (i := 9) sc_walk_of.nd rfl (by first | exact Or.inl rfl | exact Or.inr rfl) (npin_of (by decide)) (be_ixN hr.units rfl (pv 5) (be_tup (ba_cons (be_name (pv 6)) (ba_cons (be_name (pv 7)) ba_nil rfl) rfl)) fun _ _ => rfl) rfl (by first | exact Or.inl rfl | exact Or.inr rfl))
      (bss_cons (bs_set (i := 6) sc_walk_of.nd rfl (by first | exact Or.inl rfl | exact Or.inr rfl) (npin_of (by decide)) (be_ix hr.units rfl (be_lc (own := [("one", 10)]) rfl sc_walk_of.nd (bi_E rfl (be_call (ok_moved T) (hr.mono (by decide)) rfl T.m_moved T.F_moved.kp T.b_moved (takes_of rfl rfl rfl rfl) (ba_cons (be_name (pv 4)) (ba_cons (be_name (pv 6)) (ba_cons (be_name (pv 7)) ba_nil rfl) rfl) rfl) rfl rfl rfl)) (blkOk_by (N := N_walk_of) (sc := defScope st_walk_of) (by decide +kernel)) (by decide) (npins_of (by decide)) (fun _ _ _ _ _ => (bg_name (pg_name (i := 10) sc_walk_of.nd rfl (by first | exact Or.inl rfl | exact Or.inr rfl)) (npin_of (by decide)))) (fun _ _ _ _ _ => (bts_one (bt_cmp (op_eqD hr.units) eqS (nomark _) (be_getA rfl (pcGet hr.units rfl rfl rfl rfl rfl) (be_name (pv 5)) (ba_cons (be_tup (ba_cons (be_name (pv 10)) (ba_cons (be_bin op_sub subS be_int (be_name (pv 7))) ba_nil rfl) rfl)) (ba_cons (be_name (pv 9)) ba_nil rfl) rfl)) (be_bin op_sub subS (be_name (pv 9)) be_int)))) (fun _ _ _ _ _ => (be_name (pv 10))) fun _ => rfl) be_int fun _ _ => rfl) rfl (by first | exact Or.inl rfl | exact Or.inr rfl))
      (bss_cons (bs_set (i := 7) sc_walk_of.nd rfl (by first | exact Or.inl rfl | exact Or.inr rfl) (npin_of (by decide)) (be_bin op_sub subS be_int (be_name (pv 7))) rfl (by first | exact Or.inl rfl | exact Or.inr rfl))
      (bss_one (bs_expr (be_appN (pcApp (pv 8) rfl rfl rfl rfl rfl) (pa_cons (be_name (pv 6)) pa_nil)) rfl))))))
      (bss_one (bs_retV (pv 8))))))))))))
theorem ok_law_e_asked (T : Tx P w K mg base A) : FnOk P w K mg base (L2.CX P w) 6 A.f_law_e_asked A.d_law_e_asked ["couples", "rest", "goal", "first"] (spD ⟨K, A.ca, P, w⟩ 4 F_law_e_asked) :=
  def_ok (ca := A.ca) T.F_law_e_asked sc_law_e_asked (by decide) fun cdv A' outer s H vs E hr => by
    exact (bss_one (bs_tryAs (i := 4) rfl rfl sc_law_e_asked.nd rfl rfl ⟨rfl, by decide, .inl T.g_BadRow⟩ (takes_of rfl rfl rfl rfl) (npin_of (by decide)) rfl rfl (isA_BadRow_ok T) (fun W' pn xe tk po => (bss_one (bs_ret (be_call (ok_walk_of T) (hr.mono (by decide)) rfl T.m_walk_of T.F_walk_of.kp T.b_walk_of tk (ba_cons (be_name (pv 0)) (ba_cons (be_name (pv 1)) (ba_cons (be_name (pv 2)) (ba_cons (be_name (pv 3)) ba_nil rfl) rfl) rfl) rfl) rfl rfl rfl)))) (fun a oe cls d pn hz hf => (bss_one (bs_ret (be_tup (ba_cons be_str (ba_cons (be_xf T.x_BadRow T.n_BadRow_what (A.ca_BadRow) hz hf (pv 4) rfl) ba_nil rfl) rfl)))))))
theorem ok_law_e_question (T : Tx P w K mg base A) : FnOk P w K mg base (L2.CX P w) 2 A.f_law_e_question A.d_law_e_question ["stock", "couples"] (spD ⟨K, A.ca, P, w⟩ 2 F_law_e_question) :=
  def_ok (ca := A.ca) T.F_law_e_question sc_law_e_question (by decide) fun cdv A' outer s H vs E hr => by
    exact (bss_cons (bs_set (i := 2) sc_law_e_question.nd rfl (by first | exact Or.inl rfl | exact Or.inr rfl) (npin_of (by decide)) (be_if (bt_cmp (op_eqD hr.units) eqS (nomark _) (be_call (ok_law_pick T) (hr.mono (by decide)) rfl T.m_law_pick T.F_law_pick.kp T.b_law_pick (takes_of rfl rfl rfl rfl) (ba_io (pv 0) (ba_cons be_int ba_nil rfl) rfl) rfl rfl rfl) be_int) (be_ixN hr.units rfl (pv 1) be_int fun _ _ => rfl) (be_ixN hr.units rfl (pv 1) (be_call (ok_law_pick T) (hr.mono (by decide)) rfl T.m_law_pick T.F_law_pick.kp T.b_law_pick (takes_of rfl rfl rfl rfl) (ba_io (pv 0) (ba_cons (be_callB (pcB call_len rfl T.z_len bt_len (by decide) rfl rfl rfl) lenS (ba_io (pv 1) ba_nil rfl)) ba_nil rfl) rfl) rfl rfl rfl) fun _ _ => rfl)) rfl (by first | exact Or.inl rfl | exact Or.inr rfl))
      (bss_cons (bs_set (i := 3) sc_law_e_question.nd rfl (by first | exact Or.inl rfl | exact Or.inr rfl) (npin_of (by decide)) (be_if (bt_cmp (op_eqD hr.units) eqS (nomark _) (be_call (ok_law_pick T) (hr.mono (by decide)) rfl T.m_law_pick T.F_law_pick.kp T.b_law_pick (takes_of rfl rfl rfl rfl) (ba_io (pv 0) (ba_cons be_int ba_nil rfl) rfl) rfl rfl rfl) be_int) (be_ixN hr.units rfl (pv 1) (be_bin op_sub subS (be_callB (pcB call_len rfl T.z_len bt_len (by decide) rfl rfl rfl) lenS (ba_io (pv 1) ba_nil rfl)) be_int) fun _ _ => rfl) (be_ixN hr.units rfl (pv 1) (be_call (ok_law_pick T) (hr.mono (by decide)) rfl T.m_law_pick T.F_law_pick.kp T.b_law_pick (takes_of rfl rfl rfl rfl) (ba_io (pv 0) (ba_cons (be_callB (pcB call_len rfl T.z_len bt_len (by decide) rfl rfl rfl) lenS (ba_io (pv 1) ba_nil rfl)) ba_nil rfl) rfl) rfl rfl rfl) fun _ _ => rfl)) rfl (by first | exact Or.inl rfl | exact Or.inr rfl))
      (bss_cons (bs_set (i := 4) sc_law_e_question.nd rfl (by first | exact Or.inl rfl | exact Or.inr rfl) (npin_of (by decide)) (be_call (ok_law_pick T) (hr.mono (by decide)) rfl T.m_law_pick T.F_law_pick.kp T.b_law_pick (takes_of rfl rfl rfl rfl) (ba_io (pv 0) (ba_cons be_int ba_nil rfl) rfl) rfl rfl rfl) rfl (by first | exact Or.inl rfl | exact Or.inr rfl))
      (bss_cons (bs_if (bt_cmp (op_eqD hr.units) eqS (nomark _) (be_name (pv 4)) be_int) (bss_one (bs_set (i := 2) sc_law_e_question.nd rfl (by first | exact Or.inl rfl | exact Or.inr rfl) (npin_of (by decide)) (be_tup (ba_cons (be_bin op_addA addS (be_ixN hr.units rfl (pv 2) be_int fun _ _ => rfl) be_int) (ba_cons (be_ixN hr.units rfl (pv 2) be_int fun _ _ => rfl) ba_nil rfl) rfl)) rfl (by first | exact Or.inl rfl | exact Or.inr rfl))) bss_nil)
      (bss_cons (bs_if (bt_cmp (op_eqD hr.units) eqS (nomark _) (be_name (pv 4)) be_int) (bss_one (bs_set (i := 3) sc_law_e_question.nd rfl (by first | exact Or.inl rfl | exact Or.inr rfl) (npin_of (by decide)) (be_tup (ba_cons (be_ixN hr.units rfl (pv 3) be_int fun _ _ => rfl) (ba_cons (be_bin op_addA addS (be_ixN hr.units rfl (pv 3) be_int fun _ _ => rfl) be_int) ba_nil rfl) rfl)) rfl (by first | exact Or.inl rfl | exact Or.inr rfl))) bss_nil)
      (bss_cons (bs_set (i := 5) sc_law_e_question.nd rfl (by first | exact Or.inl rfl | exact Or.inr rfl) (npin_of (by decide)) (be_if (bt_cmp (op_eqD hr.units) eqS (nomark _) (be_call (ok_law_pick T) (hr.mono (by decide)) rfl T.m_law_pick T.F_law_pick.kp T.b_law_pick (takes_of rfl rfl rfl rfl) (ba_io (pv 0) (ba_cons be_int ba_nil rfl) rfl) rfl rfl rfl) be_int) (be_bin op_addA addS be_int (be_call (ok_law_pick T) (hr.mono (by decide)) rfl T.m_law_pick T.F_law_pick.kp T.b_law_pick (takes_of rfl rfl rfl rfl) (ba_io (pv 0) (ba_cons be_int ba_nil rfl) rfl) rfl rfl rfl)) (be_call (ok_law_pick T) (hr.mono (by decide)) rfl T.m_law_pick T.F_law_pick.kp T.b_law_pick (takes_of rfl rfl rfl rfl) (ba_io (pv 0) (ba_cons be_int ba_nil rfl) rfl) rfl rfl rfl)) rfl (by first | exact Or.inl rfl | exact Or.inr rfl))
      (bss_one (bs_ret (be_tup (ba_cons (be_name (pv 2)) (ba_cons (be_name (pv 3)) (ba_cons (be_name (pv 5)) ba_nil rfl) rfl) rfl))))))))))
theorem ok_law_moves (T : Tx P w K mg base A) : FnOk P w K mg base (L2.CX P w) 1 A.f_law_moves A.d_law_moves ["couples", "couple", "end"] (spD ⟨K, A.ca, P, w⟩ 3 F_law_moves) :=
  def_ok (ca := A.ca) T.F_law_moves sc_law_moves (by decide) fun cdv A' outer s H vs E hr => by
    exact (bss_one (bs_ret (be_lc (own := [("one", 3)]) rfl sc_law_moves.nd (bi_E rfl (be_name (pv 0))) (blkOk_by (N := N_law_moves) (sc := defScope st_law_moves) (by decide +kernel)) (by decide) (npins_of (by decide)) (fun _ _ _ _ _ => (bg_name (pg_name (i := 3) sc_law_moves.nd rfl (by first | exact Or.inl rfl | exact Or.inr rfl)) (npin_of (by decide)))) (fun _ _ _ _ _ => (bts_one (bt_cmp (op_eqD hr.units) eqS (nomark _) (be_ixN hr.units rfl (pv 3) (be_bin op_sub subS be_int (be_name (pv 2))) fun _ _ => rfl) (be_ixN hr.units rfl (pv 1) (be_bin op_sub subS be_int (be_name (pv 2))) fun _ _ => rfl)))) (fun _ _ _ _ _ => (be_name (pv 3))) fun _ => rfl)))
theorem ok_law_walk (T : Tx P w K mg base A) : FnOk P w K mg base (L2.CX P w) 2 A.f_law_walk A.d_law_walk ["couples", "rest", "goal", "first"] (spD ⟨K, A.ca, P, w⟩ 4 F_law_walk) :=
  def_ok (ca := A.ca) T.F_law_walk sc_law_walk (by decide) fun cdv A' outer s H vs E hr => by
    exact (bss_cons (bs_set (i := 4) sc_law_walk.nd rfl (by first | exact Or.inl rfl | exact Or.inr rfl) (npin_of (by decide)) (be_dispN hr.units rfl (bps_cons (be_name (pv 1)) (be_lst (ba_cons (be_name (pv 1)) ba_nil rfl)) bps_nil) rfl rfl (by simp) (by decide)) rfl (by first | exact Or.inl rfl | exact Or.inr rfl))
      (bss_cons (bs_set (i := 5) sc_law_walk.nd rfl (by first | exact Or.inl rfl | exact Or.inr rfl) (npin_of (by decide)) (be_name (pv 3)) rfl (by first | exact Or.inl rfl | exact Or.inr rfl))
      (bss_cons (bs_set (i := 6) sc_law_walk.nd rfl (by first | exact Or.inl rfl | exact Or.inr rfl) (npin_of (by decide)) be_int rfl (by first | exact Or.inl rfl | exact Or.inr rfl))
      (bss_cons (bs_for (passes_of rfl) rfl (bi_rng1 rfl T.z_range (ba_cons (be_bin op_addA addS (be_bin op_mulW mulS be_int (be_callB (pcB call_len rfl T.z_len bt_len (by decide) rfl rfl rfl) lenS (ba_io (pv 0) ba_nil rfl))) be_int) ba_nil rfl) rfl) (bg_name (pg_name (i := 7) sc_law_walk.nd rfl (by first | exact Or.inl rfl | exact Or.inr rfl)) (npin_of (by decide))) (bss_cons (bs_if (bt_inL (u65_of hr) rfl rfl (be_name (pv 2)) (bl_name (pv 4))) (bss_one (bs_ret (be_ixN hr.units rfl (pv 4) (be_name (pv 2)) fun _ _ => rfl))) bss_nil)
      (bss_cons (bs_set (i := 8) sc_law_walk.nd rfl (by first | exact Or.inl rfl | exact Or.inr rfl) (npin_of (by decide)) (be_dn0 rfl) rfl (by first | exact Or.inl rfl | exact Or.inr rfl))
      (bss_cons (bs_for (passes_of rfl) rfl (bi_keys rfl (be_name (pv 4))) (bg_name (pg_name (i := 9) sc_law_walk.nd rfl (by first | exact Or.inl rfl | exact Or.inr rfl)) (npin_of (by decide))) (bss_one (bs_for (passes_of rfl) rfl (bi_E rfl (be_call (ok_law_moves T) (hr.mono (by decide)) rfl T.m_law_moves T.F_law_moves.kp T.b_law_moves (takes_of rfl rfl rfl rfl) (ba_cons (be_name (pv 0)) (ba_cons (be_name (pv 9)) (ba_cons (be_name (pv 5)) ba_nil rfl) rfl) rfl) rfl rfl rfl)) (bg_name (pg_name (i := 10) sc_law_walk.nd rfl (by first | exact Or.inl rfl | exact Or.inr rfl)) (npin_of (by decide))) (bss_cons (bs_set (i := 11) sc_law_walk.nd rfl (by first | exact Or.inl rfl | exact Or.inr rfl) (npin_of (by decide)) (be_bin op_addA addS (be_ixN hr.units rfl (pv 4) (be_name (pv 9)) fun _ _ => rfl) (be_lst (ba_cons (be_name (pv 10)) ba_nil rfl))) rfl (by first | exact Or.inl rfl | exact Or.inr rfl))
      (bss_one (bs_if (bt_w (bw_or (bt_notInL (u65_of hr) rfl rfl (be_name (pv 10)) (bl_name (pv 8))) (bw_or1 (bt_cmp (op_ltP hr.units) ltAS (nomark _) (be_name (pv 11)) (be_ixN hr.units rfl (pv 8) (be_name (pv 10)) fun _ _ => rfl))))) (bss_one (bs_setN (psSub hr.units (pv 8) (fun _ => rfl) rfl rfl rfl) (be_name (pv 11)) (be_name (pv 10)))) bss_nil))) fun _ => rfl)) fun _ => rfl)
      (bss_cons (bs_set (i := 6) sc_law_walk.nd rfl (by first | exact Or.inl rfl | exact Or.inr rfl) (npin_of (by decide)) (be_if (bt_cmp (op_eqD hr.units) eqS (nomark _) (be_callB (pcB call_lenN rfl T.z_len bt_len (by decide) rfl rfl rfl) lenNS (ba_io (pv 8) ba_nil rfl)) (be_callB (pcB call_lenN rfl T.z_len bt_len (by decide) rfl rfl rfl) lenNS (ba_io (pv 4) ba_nil rfl))) (be_bin op_addA addS (be_name (pv 6)) be_int) be_int) rfl (by first | exact Or.inl rfl | exact Or.inr rfl))
      (bss_cons (bs_if (bt_cmp (op_eqD hr.units) eqS (nomark _) (be_name (pv 6)) be_int) (bss_one (bs_ret be_non)) bss_nil)
      (bss_cons (bs_set (i := 4) sc_law_walk.nd rfl (by first | exact Or.inl rfl | exact Or.inr rfl) (npin_of (by decide)) (be_name (pv 8)) rfl (by first | exact Or.inl rfl | exact Or.inr rfl))
      (bss_one (bs_set (i := 5) sc_law_walk.nd rfl (by first | exact Or.inl rfl | exact Or.inr rfl) (npin_of (by decide)) (be_bin op_sub subS be_int (be_name (pv 5))) rfl (by first | exact Or.inl rfl | exact Or.inr rfl))))))))) fun _ => rfl)
      (bss_one (bs_ret be_non))))))
theorem ok_law_e_due (T : Tx P w K mg base A) : FnOk P w K mg base (L2.CX P w) 3 A.f_law_e_due A.d_law_e_due ["couples", "rest", "goal", "first"] (spD ⟨K, A.ca, P, w⟩ 4 F_law_e_due) :=
  def_ok (ca := A.ca) T.F_law_e_due sc_law_e_due (by decide) fun cdv A' outer s H vs E hr => by
    exact (bss_cons (bs_if (bt_w (bw_or (bt_notInL (u65_of hr) rfl rfl (be_name (pv 1)) (bl_name (pv 0))) (bw_or1 (bt_notInL (u65_of hr) rfl rfl (be_name (pv 2)) (bl_name (pv 0)))))) (bss_one (bs_ret (be_tup (ba_cons be_str (ba_cons be_str ba_nil rfl) rfl)))) bss_nil)
      (bss_cons (bs_if (bt_cmp op_notInA notInS rfl (be_name (pv 3)) (be_tup (ba_cons be_int (ba_cons be_int ba_nil rfl) rfl))) (bss_one (bs_ret (be_tup (ba_cons be_str (ba_cons be_str ba_nil rfl) rfl)))) bss_nil)
      (bss_one (bs_ret (be_call (ok_law_walk T) (hr.mono (by decide)) rfl T.m_law_walk T.F_law_walk.kp T.b_law_walk (takes_of rfl rfl rfl rfl) (ba_cons (be_name (pv 0)) (ba_cons (be_name (pv 1)) (ba_cons (be_name (pv 2)) (ba_cons (be_name (pv 3)) ba_nil rfl) rfl) rfl) rfl) rfl rfl rfl)))))
theorem ok_law (T : Tx P w K mg base A) : FnOk P w K mg base (L2.CX P w) 10 A.f_law A.d_law ["script"] (spD ⟨K, A.ca, P, w⟩ 1 F_law) :=
  def_ok (ca := A.ca) T.F_law sc_law (by decide) fun cdv A' outer s H vs E hr => by
    exact (bss_cons (bs_set (i := 1) sc_law.nd rfl (by first | exact Or.inl rfl | exact Or.inr rfl) (npin_of (by decide)) (be_lst (ba_cons (be_call (ok_law_source T) (hr.mono (by decide)) rfl T.m_law_source T.F_law_source.kp T.b_law_source (takes_of rfl rfl rfl rfl) (ba_cons (be_name (pv 0)) (ba_cons be_int ba_nil rfl) rfl) rfl rfl rfl) (ba_cons (be_call (ok_law_source T) (hr.mono (by decide)) rfl T.m_law_source T.F_law_source.kp T.b_law_source (takes_of rfl rfl rfl rfl) (ba_cons (be_name (pv 0)) (ba_cons be_int ba_nil rfl) rfl) rfl rfl rfl) ba_nil rfl) rfl)) rfl (by first | exact Or.inl rfl | exact Or.inr rfl))
      (bss_cons (bs_setLcB (i := 1) (j := 15) (k := 2) rfl sc_law.nd rfl rfl rfl (npin_of (by decide)) (npin_of (by decide)) (sw_true rfl rfl rfl (by decide +kernel)) (pv 1) (blkOk_by (N := N_law) (sc := defScope st_law) (by decide +kernel)) (fun _ _ _ _ _ => pg_name (i := 15) sc_law.nd rfl (by first | exact Or.inl rfl | exact Or.inr rfl)) (fun p v _ _ _ _ _ => (be_call (ok_law_e_drawn_table T) (hr.mono (by decide)) rfl T.m_law_e_drawn_table T.F_law_e_drawn_table.kp T.b_law_e_drawn_table takes0 (ba_io (pv 15) ba_nil rfl) rfl rfl rfl)) fun _ => rfl)
      (bss_cons (bs_set (i := 3) sc_law.nd rfl (by first | exact Or.inl rfl | exact Or.inr rfl) (npin_of (by decide)) (be_lst ba_nil) rfl (by first | exact Or.inl rfl | exact Or.inr rfl))
      (bss_cons (bs_for (passes_of rfl) rfl (bi_rng1 rfl T.z_range (ba_cons be_int ba_nil rfl) rfl) (bg_name (pg_name (i := 4) sc_law.nd rfl (by first | exact Or.inl rfl | exact Or.inr rfl)) (npin_of (by decide))) (bss_one (bs_for (passes_of rfl) rfl (bi_rng1 rfl T.z_range (ba_cons be_int ba_nil rfl) rfl) (bg_name (pg_name (i := 5) sc_law.nd rfl (by first | exact Or.inl rfl | exact Or.inr rfl)) (npin_of (by decide))) (bss_cons (bs_set (i := 10) sc_law.nd rfl (by first | exact Or.inl rfl | exact Or.inr rfl) (npin_of (by decide)) (be_ixN hr.units rfl (pv 2) (be_name (pv 5)) fun _ _ => rfl) rfl (by first | exact Or.inl rfl | exact Or.inr rfl))
      (bss_cons (bs_asg (psTup rfl rfl rfl) (be_callP (ok_law_e_question T) (hr.mono (by decide)) rfl T.m_law_e_question T.F_law_e_question.kp T.b_law_e_question (takes_of rfl rfl rfl rfl) (bl_ix hr.units rfl (bl_name (pv 1)) (bq_name (pv 5)) fun _ _ => rfl) (bqs_cons (bq_name (pv 10)) bqs_nil rfl) rfl rfl rfl) (bg_tup rfl rfl (bgs_cons (bg_name (pg_name (i := 6) sc_law.nd rfl (by first | exact Or.inl rfl | exact Or.inr rfl)) (npin_of (by decide))) (bgs_cons (bg_name (pg_name (i := 7) sc_law.nd rfl (by first | exact Or.inl rfl | exact Or.inr rfl)) (npin_of (by decide))) (bgs_cons (bg_name (pg_name (i := 8) sc_law.nd rfl (by first | exact Or.inl rfl | exact Or.inr rfl)) (npin_of (by decide))) bgs_nil rfl) rfl) rfl) rfl rfl))
      (bss_cons (bs_set (i := 9) sc_law.nd rfl (by first | exact Or.inl rfl | exact Or.inr rfl) (npin_of (by decide)) (be_call (ok_law_e_due T) (hr.mono (by decide)) rfl T.m_law_e_due T.F_law_e_due.kp T.b_law_e_due (takes_of rfl rfl rfl rfl) (ba_cons (be_name (pv 10)) (ba_cons (be_name (pv 6)) (ba_cons (be_name (pv 7)) (ba_cons (be_name (pv 8)) ba_nil rfl) rfl) rfl) rfl) rfl rfl rfl) rfl (by first | exact Or.inl rfl | exact Or.inr rfl))
      (bss_cons (bs_set (i := 13) sc_law.nd rfl (by first | exact Or.inl rfl | exact Or.inr rfl) (npin_of (by decide)) (be_callF (pcT call_list_of rfl T.z_list bt_list (by decide) rfl rfl rfl) listS (ba_cons (be_name (pv 10)) ba_nil rfl)) rfl (by first | exact Or.inl rfl | exact Or.inr rfl))
      (bss_cons (bs_set (i := 14) sc_law.nd rfl (by first | exact Or.inl rfl | exact Or.inr rfl) (npin_of (by decide)) (be_call (ok_law_e_asked T) (hr.mono (by decide)) rfl T.m_law_e_asked T.F_law_e_asked.kp T.b_law_e_asked (takes_of rfl rfl rfl rfl) (ba_cons (be_name (pv 13)) (ba_cons (be_name (pv 6)) (ba_cons (be_name (pv 7)) (ba_cons (be_name (pv 8)) ba_nil rfl) rfl) rfl) rfl) rfl rfl rfl) rfl (by first | exact Or.inl rfl | exact Or.inr rfl))
      (bss_cons (bs_if (bt_w (bw_or (bt_not (bt_val (be_callV (ok_law_same T _) (hr.mono (by decide)) rfl T.m_law_same T.F_law_same.kp T.b_law_same (takes_of rfl rfl rfl rfl) (ba_io (pv 14) (ba_io (pv 9) ba_nil rfl) rfl) rfl rfl rfl) fun _ => rfl)) (bw_or1 (bt_cmp (op_neD hr.units) neS (nomark _) (be_name (pv 13)) (be_name (pv 10)))))) (bss_one (bs_ret be_bl)) bss_nil)
      (bss_cons (bs_expr (be_appN (pcApp (pv 3) rfl rfl rfl rfl rfl) (pa_cons (be_tup (ba_cons (be_name (pv 5)) (ba_cons (be_name (pv 6)) (ba_cons (be_name (pv 7)) (ba_cons (be_name (pv 8)) (ba_cons (be_name (pv 9)) ba_nil rfl) rfl) rfl) rfl) rfl)) pa_nil)) rfl)
      (bss_one (bs_if (bt_val (be_callB (pcB call_isiA rfl T.z_isinstance bt_isinstance (by decide) rfl rfl rfl) isiS (ba_io (pv 14) (ba_cons (be_ty rfl T.z_list bt_list (by decide) rfl) ba_nil rfl) rfl)) fun _ => rfl) (bss_one (bs_expr (be_appN (pcApp (pv 14) rfl rfl rfl rfl rfl) (pa_cons (be_ixN hr.units rfl (pv 14) be_int fun _ _ => rfl) pa_nil)) rfl)) bss_nil))))))))) fun _ => rfl)) fun _ => rfl)
      (bss_cons (bs_for (passes_of rfl) rfl (bi_E rfl (be_name (pv 3))) (bg_tup rfl rfl (bgs_cons (bg_name (pg_name (i := 5) sc_law.nd rfl (by first | exact Or.inl rfl | exact Or.inr rfl)) (npin_of (by decide))) (bgs_cons (bg_name (pg_name (i := 6) sc_law.nd rfl (by first | exact Or.inl rfl | exact Or.inr rfl)) (npin_of (by decide))) (bgs_cons (bg_name (pg_name (i := 7) sc_law.nd rfl (by first | exact Or.inl rfl | exact Or.inr rfl)) (npin_of (by decide))) (bgs_cons (bg_name (pg_name (i := 8) sc_law.nd rfl (by first | exact Or.inl rfl | exact Or.inr rfl)) (npin_of (by decide))) (bgs_cons (bg_name (pg_name (i := 9) sc_law.nd rfl (by first | exact Or.inl rfl | exact Or.inr rfl)) (npin_of (by decide))) bgs_nil rfl) rfl) rfl) rfl) rfl) rfl rfl) (bss_cons (bs_set (i := 12) sc_law.nd rfl (by first | exact Or.inl rfl | exact Or.inr rfl) (npin_of (by decide)) (be_callP (ok_law_shuffled T) (hr.mono (by decide)) rfl T.m_law_shuffled T.F_law_shuffled.kp T.b_law_shuffled (takes_of rfl rfl rfl rfl) (bl_ix hr.units rfl (bl_name (pv 1)) (bq_name (pv 5)) fun _ _ => rfl) (bqs_cons (bq_l (bl_ix hr.units rfl (bl_name (pv 2)) (bq_name (pv 5)) fun _ _ => rfl)) bqs_nil rfl) rfl rfl rfl) rfl (by first | exact Or.inl rfl | exact Or.inr rfl))
      (bss_one (bs_if (bt_not (bt_val (be_callV (ok_law_same T _) (hr.mono (by decide)) rfl T.m_law_same T.F_law_same.kp T.b_law_same (takes_of rfl rfl rfl rfl) (ba_cons (be_call (ok_law_e_asked T) (hr.mono (by decide)) rfl T.m_law_e_asked T.F_law_e_asked.kp T.b_law_e_asked (takes_of rfl rfl rfl rfl) (ba_cons (be_bin op_addA addS (be_name (pv 12)) (be_sl rfl (be_name (pv 12)) bp_none (bp_some be_int))) (ba_cons (be_name (pv 6)) (ba_cons (be_name (pv 7)) (ba_cons (be_name (pv 8)) ba_nil rfl) rfl) rfl) rfl) rfl rfl rfl) (ba_io (pv 9) ba_nil rfl) rfl) rfl rfl rfl) fun _ => rfl)) (bss_one (bs_ret be_bl)) bss_nil))) fun _ => rfl)
      (bss_cons (bs_set (i := 10) sc_law.nd rfl (by first | exact Or.inl rfl | exact Or.inr rfl) (npin_of (by decide)) (be_ixN hr.units rfl (pv 2) be_int fun _ _ => rfl) rfl (by first | exact Or.inl rfl | exact Or.inr rfl))
      (bss_cons (bs_if (bt_not (bt_val (be_callV (ok_law_same T _) (hr.mono (by decide)) rfl T.m_law_same T.F_law_same.kp T.b_law_same (takes_of rfl rfl rfl rfl) (ba_cons (be_call (ok_law_e_asked T) (hr.mono (by decide)) rfl T.m_law_e_asked T.F_law_e_asked.kp T.b_law_e_asked (takes_of rfl rfl rfl rfl) (ba_cons (be_name (pv 10)) (ba_cons (be_ixN hr.units rfl (pv 10) be_int fun _ _ => rfl) (ba_cons (be_ixN hr.units rfl (pv 10) be_int fun _ _ => rfl) (ba_cons be_int ba_nil rfl) rfl) rfl) rfl) rfl rfl rfl) (ba_cons (be_lst (ba_cons (be_ixN hr.units rfl (pv 10) be_int fun _ _ => rfl) ba_nil rfl)) ba_nil rfl) rfl) rfl rfl rfl) fun _ => rfl)) (bss_one (bs_ret be_bl)) bss_nil)
      (bss_cons (bs_set (i := 11) sc_law.nd rfl (by first | exact Or.inl rfl | exact Or.inr rfl) (npin_of (by decide)) (be_call (ok_law_straight T) (hr.mono (by decide)) rfl T.m_law_straight T.F_law_straight.kp T.b_law_straight (takes_of rfl rfl rfl rfl) (ba_cons be_int (ba_cons be_int ba_nil rfl) rfl) rfl rfl rfl) rfl (by first | exact Or.inl rfl | exact Or.inr rfl))
      (bss_one (bs_ret (be_callV (ok_law_same T _) (hr.mono (by decide)) rfl T.m_law_same T.F_law_same.kp T.b_law_same (takes_of rfl rfl rfl rfl) (ba_cons (be_call (ok_law_e_asked T) (hr.mono (by decide)) rfl T.m_law_e_asked T.F_law_e_asked.kp T.b_law_e_asked (takes_of rfl rfl rfl rfl) (ba_cons (be_name (pv 11)) (ba_cons (be_ixN hr.units rfl (pv 11) be_int fun _ _ => rfl) (ba_cons (be_ixN hr.units rfl (pv 11) be_int fun _ _ => rfl) (ba_cons be_int ba_nil rfl) rfl) rfl) rfl) rfl rfl rfl) (ba_io (pv 11) ba_nil rfl) rfl) rfl rfl rfl)))))))))))
end
end K18

namespace K18
open PySem L2 Bx Lw
set_option maxRecDepth 100000
set_option maxHeartbeats 4000000
theorem lay_cD : ∀ {a : List Cp}, PyData.canLayAll0 (a.map PySem.W.Datum.toD) = true
  | [] => by simp [PyData.canLayAll0]
  | c :: a => by
    have h := lay_cD (a := a)
    rw [List.map_cons]
    have e : (PySem.W.Datum.toD c : PyData) = .tuple [.int c.1, .int c.2] := rfl
    rw [e]
    simp [PyData.canLayAll0, PyData.canLay0, h]
theorem memD_cDs {c : Cp} {o : Bool} {cs : List Cp} : memD (cD c) (.nd .lst o (cs.map cD)) = some (decide (c ∈ cs)) := by
  have h := depth_cD (a := cs)
  have pc : pyd (cD c) = PySem.W.Datum.toD c := rfl
  have ec : eqOk (cD c) = true := rfl
  unfold memD
  dsimp only
  rw [pyds_cD, eqOks_cD, pc, ec]
  have s1 : SeqAt.shaped (PySem.W.Datum.toD c : PyData) = true := by
    have e : (PySem.W.Datum.toD c : PyData) = .tuple [.int c.1, .int c.2] := rfl
    rw [e]
    simp [SeqAt.shaped, PyData.canLay0, PyData.canLayAll0, PyData.depth, PyData.depthAll]
  have s2 : SeqAt.shaped (.list (cs.map PySem.W.Datum.toD)) = true := by
    simp [SeqAt.shaped, PyData.canLay0, PyData.depth, lay_cD]
    omega
  rw [s1, s2, if_pos (by decide)]
  congr 1
  rw [Bool.eq_iff_iff]
  simp [PySem.W.Datum.eqv]
abbrev refD1 (w : Str) : D := .nd .tup false [.str "refused", .str w]
/-- what a question's answer is -/
def AnsIs (cs : List Cp) (rest goal : Cp) (first : Int) (d : D) : Prop :=
  (¬ (rest ∈ cs ∧ goal ∈ cs) ∧ d = refD1 "bear") ∨
  ((rest ∈ cs ∧ goal ∈ cs) ∧ ¬ (first = 0 ∨ first = 1) ∧ d = refD1 "numbers") ∨
  ((rest ∈ cs ∧ goal ∈ cs) ∧ (first = 0 ∨ first = 1) ∧ ((d = .non ∧ ∀ k, ¬ KS cs first rest k goal) ∨ ∃ b t r, d = .nd .lst b ((rest :: r).map cD) ∧ Least cs first rest t goal r ∧ (∀ k < t, ¬ KS cs first rest k goal) ∧ t ≤ 2 * cs.length + 3))
theorem wk_congr {cs cs' : List Cp} {g : Cp} (h : ∀ c, c ∈ cs ↔ c ∈ cs') : ∀ {ws : List Cp} {e : Int}, Wk cs g e ws ↔ Wk cs' g e ws
  | [], _ => Iff.rfl
  | [_], _ => Iff.rfl
  | c :: c' :: r, e => by
    show _ ∧ _ ∧ _ ↔ _ ∧ _ ∧ _
    rw [h c', wk_congr h]
theorem ks_congr {cs cs' : List Cp} {first : Int} {rest c : Cp} {t : Nat} (h : ∀ c, c ∈ cs ↔ c ∈ cs') : KS cs first rest t c ↔ KS cs' first rest t c :=
  exists_congr fun r => and_congr Iff.rfl (wk_congr h)
theorem ans_same {cs cs' : List Cp} {rest goal : Cp} {first : Int} {d d' : D} (hm : ∀ c, c ∈ cs ↔ c ∈ cs') (h : AnsIs cs rest goal first d) (h' : AnsIs cs' rest goal first d') : frz d = frz d' := by
  have m : (rest ∈ cs ∧ goal ∈ cs) ↔ (rest ∈ cs' ∧ goal ∈ cs') := and_congr (hm _) (hm _)
  rcases h with ⟨a, rfl⟩ | ⟨a, b, rfl⟩ | ⟨a, b, h⟩
  · rcases h' with ⟨_, rfl⟩ | ⟨a', _⟩ | ⟨a', _⟩
    · rfl
    · exact absurd (m.mpr a') a
    · exact absurd (m.mpr a') a
  · rcases h' with ⟨a', _⟩ | ⟨_, _, rfl⟩ | ⟨_, b', _⟩
    · exact absurd (m.mp a) a'
    · rfl
    · exact absurd b' b
  · rcases h' with ⟨a', _⟩ | ⟨_, b', _⟩ | ⟨_, _, h'⟩
    · exact absurd (m.mp a) a'
    · exact absurd b b'
    · rcases h with ⟨rfl, n⟩ | ⟨o, t, r, rfl, l, n, _⟩
      · rcases h' with ⟨rfl, _⟩ | ⟨_, t', r', _, l', _, _⟩
        · rfl
        · exact absurd ((ks_congr hm).mpr ⟨r', l'.1, l'.2.1⟩) (n t')
      · rcases h' with ⟨_, n'⟩ | ⟨o', t', r', rfl, l', n', _⟩
        · exact absurd ((ks_congr hm).mp ⟨r, l.1, l.2.1⟩) (n' t)
        · have e : t = t' := by
            rcases Nat.lt_trichotomy t t' with q | q | q
            · exact absurd ((ks_congr hm).mp ⟨r, l.1, l.2.1⟩) (n' t q)
            · exact q
            · exact absurd ((ks_congr hm).mpr ⟨r', l'.1, l'.2.1⟩) (n t' q)
          subst e
          have e2 : r = r' := leW_anti (by rw [l.1, l'.1]) (l.2.2 r' l'.1 ((wk_congr hm).mpr l'.2.1)) (l'.2.2 r l.1 ((wk_congr hm).mp l.2.1))
          subst e2
          simp
theorem notIn01 {e : Int} : notInD (.int e) (.nd .tup false [.int 0, .int 1]) = some (.bl (!(decide (e = 0 ∨ e = 1)))) := by
  unfold notInD inD
  simp [flatD, eqF, D.seq]
  rw [Bool.eq_iff_iff]
  simp
  omega
theorem asked_is {cs : List Cp} {rest goal : Cp} {first : Int} {o : Bool} (hl : cs.length < 64) : ∃ d, F_law_e_asked [.nd .lst o (cs.map cD), cD rest, cD goal, .int first] = .ok d [none, none, none, none] ∧ AnsIs cs rest goal first d ∧ (d = .non ∨ (∃ w, d = refD1 w) ∨ ∃ ws : List Cp, d = .nd .lst true (ws.map cD) ∧ ws ≠ [] ∧ ws.length < 1000) := by
  unfold F_law_e_asked B_law_e_asked
  by_cases m : rest ∈ cs ∧ goal ∈ cs
  · by_cases f : first = 0 ∨ first = 1
    · obtain ⟨d, h1, h2⟩ := walk_ok (o := false) (first := first) hl m f
      refine ⟨d, ?_, .inr (.inr ⟨m, f, ?_⟩), ?_⟩
      · simp [fDef, fTryAs, h1]
      · rcases h2 with ⟨rfl, n⟩ | ⟨r, rfl, r1, r2, w, le, least⟩
        · refine .inl ⟨rfl, fun k ⟨r, l, w⟩ => n k ?_⟩
          exact l ▸ wk_rch m.1 w
        · exact .inr ⟨true, r.length, r, rfl, ⟨rfl, w, fun r2 l2 w2 => least r2 w2 l2⟩, fun k hk ⟨r3, l3, w3⟩ => r2 k hk (l3 ▸ wk_rch m.1 w3), by omega⟩
      · rcases h2 with ⟨rfl, n⟩ | ⟨r, rfl, r1, r2, w, le, least⟩
        · exact .inl rfl
        · exact .inr (.inr ⟨rest :: r, rfl, by simp, by simp; omega⟩)
    · refine ⟨refD1 "numbers", ?_, .inr (.inl ⟨m, f, rfl⟩), .inr (.inl ⟨_, rfl⟩)⟩
      have h := walk_num (o := false) hl m f
      unfold fDef
      rw [try_exc (x := xNum) (sl := [some (.nd .lst false (cs.map cD)), some (cD rest), some (cD goal), some (.int first), none]) (ex := none) (by simp [h]) (by simp [isA_BadRow]) (by simp)]
      simp [eXf, lim]
  · refine ⟨refD1 "bear", ?_, .inl ⟨m, rfl⟩, .inr (.inl ⟨_, rfl⟩)⟩
    have h := walk_bear (o := false) (first := .int first) hl m
    unfold fDef
    rw [try_exc (x := xBear) (sl := [some (.nd .lst false (cs.map cD)), some (cD rest), some (cD goal), some (.int first), none]) (ex := none) (by simp [h]) (by simp [isA_BadRow]) (by simp)]
    simp [eXf, lim]
theorem due_is {cs : List Cp} {rest goal : Cp} {first : Int} (hl : cs.length < 64) : ∃ d, F_law_e_due [.nd .lst false (cs.map cD), cD rest, cD goal, .int first] = .ok d [none, none, none, none] ∧ AnsIs cs rest goal first d := by
  have m1 := memD_cDs (c := rest) (cs := cs) (o := false)
  have m2 := memD_cDs (c := goal) (cs := cs) (o := false)
  unfold F_law_e_due B_law_e_due
  by_cases a : rest ∈ cs
  · by_cases b : goal ∈ cs
    · rw [decide_eq_true a] at m1
      rw [decide_eq_true b] at m2
      by_cases f : first = 0 ∨ first = 1
      · obtain ⟨d, h1, h2⟩ := law_walk_is (goal := goal) (by omega) f a
        have nf := notIn01 (e := first)
        rw [decide_eq_true f] at nf
        refine ⟨d, by simp [fDef, lN, m1, m2, lim, nf, h1], .inr (.inr ⟨⟨a, b⟩, f, ?_⟩)⟩
        rcases h2 with ⟨rfl, n⟩ | ⟨t, r, rfl, l, n⟩
        · exact .inl ⟨rfl, n⟩
        · exact .inr ⟨false, t, r, rfl, l, n⟩
      · have nf := notIn01 (e := first)
        rw [decide_eq_false f] at nf
        exact ⟨refD1 "numbers", by simp [fDef, lN, m1, m2, lim, nf], .inr (.inl ⟨⟨a, b⟩, f, rfl⟩)⟩
    · rw [decide_eq_true a] at m1
      rw [decide_eq_false b] at m2
      exact ⟨refD1 "bear", by simp [fDef, lN, m1, m2, lim], .inl ⟨fun h => b h.2, rfl⟩⟩
  · rw [decide_eq_false a] at m1
    exact ⟨refD1 "bear", by simp [fDef, lN, m1, lim], .inl ⟨fun h => a h.1, rfl⟩⟩
theorem wk_sub {cs : List Cp} {g : Cp} : ∀ {r : List Cp} {c : Cp} {e : Int}, Wk cs g e (c :: r) → ∀ x ∈ r, x ∈ cs
  | [], _, _, _, x, hx => by cases hx
  | y :: r, _, _, h, x, hx => by
    rcases List.mem_cons.mp hx with rfl | hx
    · exact h.1
    · exact wk_sub h.2.2 x hx
abbrev Sml (c : Cp) : Prop := 0 ≤ c.1 ∧ c.1 ≤ 1000 ∧ 0 ≤ c.2 ∧ c.2 ≤ 1000
theorem okS_int {n : Nat} {i : Int} (h : i.natAbs < 2 ^ 60) : okS (n + 1) (.int i) = true := by
  unfold okS
  refine decide_eq_true ?_
  rcases Nat.eq_zero_or_pos i.natAbs with z | z
  · rw [z]; decide
  · have := (Nat.log2_lt (n := i.natAbs) (k := 60) (by omega)).mpr h
    omega
theorem okS_cD {n : Nat} {c : Cp} (h : Sml c) : okS (n + 2) (cD c) = true := by
  unfold cD okS
  simp
  exact ⟨okS_int (by omega), okS_int (by omega)⟩
theorem okS_ws {n : Nat} {o : Bool} {ws : List Cp} (h : ∀ c ∈ ws, Sml c) (hl : ws.length < 1000) : okS (n + 3) (.nd .lst o (ws.map cD)) = true := by
  unfold okS
  rw [Bool.and_eq_true, List.all_eq_true]
  refine ⟨decide_eq_true (by rw [List.length_map]; omega), fun d hd => ?_⟩
  obtain ⟨c, hc, rfl⟩ := List.mem_map.mp hd
  exact okS_cD (h c hc)
theorem okS_str {n : Nat} {z : Str} (h : (reprText z).length ≤ 16000000) (h2 : PyData.strOk (reprText z) = true) : okS (n + 1) (.str z) = true := by
  unfold okS; simp [h, h2]
theorem okS_ref {n : Nat} : okS (n + 2) (refD1 "bear") = true ∧ okS (n + 2) (refD1 "numbers") = true := by
  have h1 : okS (n + 1) (.str "refused") = true := okS_str (by decide +kernel) (by decide +kernel)
  have h2 : okS (n + 1) (.str "bear") = true := okS_str (by decide +kernel) (by decide +kernel)
  have h3 : okS (n + 1) (.str "numbers") = true := okS_str (by decide +kernel) (by decide +kernel)
  constructor
  · unfold refD1 okS
    simp [h1, h2]
  · unfold refD1 okS
    simp [h1, h3]
theorem ans_ok {cs : List Cp} {rest goal : Cp} {first : Int} {d : D} (h : AnsIs cs rest goal first d) (hb : ∀ c ∈ cs, Sml c) (hl : cs.length < 64) : okS 8 d = true := by
  rcases h with ⟨_, rfl⟩ | ⟨_, _, rfl⟩ | ⟨m, _, ⟨rfl, _⟩ | ⟨o, t, r, rfl, l, _, tl⟩⟩
  · exact okS_ref.1
  · exact okS_ref.2
  · rfl
  · refine okS_ws (fun c hc => ?_) (by have := l.1; simp; omega)
    rcases List.mem_cons.mp hc with rfl | hc
    · exact hb _ m.1
    · exact hb _ (wk_sub l.2.1 _ hc)
@[simp] theorem noDks_cD : ∀ {ws : List Cp}, noDks (ws.map cD) = true
  | [] => by simp
  | c :: ws => by rw [List.map_cons, noDks_cons, noDks_cD]; simp [cD]
theorem ans_noDk {cs : List Cp} {rest goal : Cp} {first : Int} {d : D} (h : AnsIs cs rest goal first d) : noDk d = true := by
  rcases h with ⟨_, rfl⟩ | ⟨_, _, rfl⟩ | ⟨m, _, ⟨rfl, _⟩ | ⟨o, t, r, rfl, l, _, tl⟩⟩
  · simp
  · simp
  · simp
  · rw [noDk_lst, noDks_cD]
/-- drawn tables -/
def Tb18 (cs : List Cp) : Prop := cs ≠ [] ∧ cs.length ≤ 28 ∧ ∀ c ∈ cs, 0 ≤ c.1 ∧ c.1 < 197 ∧ 0 ≤ c.2 ∧ c.2 < 197
theorem more_is {n : Nat} {s : D} {cs : List Cp} {k : Nat} {x1 x3 x4 : Option D} (h : Stk (n + 6) s) (hk : k ≤ 3) (h0 : cs ≠ []) (hl : cs.length ≤ 25) (ok : Tok cs) : ∃ (s' : D) (cs' : List Cp) (y3 y4 : Option D), forL (gN 3) (fSeq (fAsg (gN 4) (eTup (aCons (eCall 2 F_law_pick (aIo 0 (aCons (eC (.int 14)) aNil))) (aCons (eCall 2 F_law_pick (aIo 0 (aCons (eC (.int 14)) aNil))) aNil)))) (fIf (tTst (eInL true (eN 4) (lN 2))) (fExpr (eAppN 2 (eN 4))) fNext)) (rngD 0 k) ⟨[some s, x1, some (.nd .lst true (cs.map cD)), x3, x4], none⟩ = .nx ⟨[some s', x1, some (.nd .lst true (cs'.map cD)), y3, y4], none⟩ ∧ Stk n s' ∧ cs' ≠ [] ∧ cs'.length ≤ 28 ∧ Tok cs' := by
  obtain ⟨e', h1, s', cs', y3, y4, k1, n1, l1, ok1, rfl⟩ := forL_ix (g := gN 3) (b := fSeq (fAsg (gN 4) (eTup (aCons (eCall 2 F_law_pick (aIo 0 (aCons (eC (.int 14)) aNil))) (aCons (eCall 2 F_law_pick (aIo 0 (aCons (eC (.int 14)) aNil))) aNil)))) (fIf (tTst (eInL true (eN 4) (lN 2))) (fExpr (eAppN 2 (eN 4))) fNext))
    (I := fun j e => ∃ (s' : D) (cs' : List Cp) (y3 y4 : Option D), Stk (n + 2 * (3 - j)) s' ∧ cs' ≠ [] ∧ cs'.length ≤ 25 + j ∧ Tok cs' ∧ e = (⟨[some s', x1, some (.nd .lst true (cs'.map cD)), y3, y4], none⟩ : En)) (xs := rngD 0 k) (e := ⟨[some s, x1, some (.nd .lst true (cs.map cD)), x3, x4], none⟩) (j := 0) ⟨s, cs, x3, x4, h, h0, by omega, ok, rfl⟩ (fun j x hx e he => by
    obtain ⟨s1, cs1, y3, y4, k1, n1, l1, ok1, rfl⟩ := he
    obtain ⟨hj, rfl⟩ := rngD_at hx
    rw [Nat.zero_add] at k1 l1 ⊢
    obtain ⟨u, s2, e2, a2, b2, k2⟩ := pick_ok (n := n + 2 * (3 - (j + 1)) + 1) (m := 14) (s := s1) (k1.le (by omega)) (by decide) (by decide)
    obtain ⟨v, s3, e3, a3, b3, k3⟩ := pick_ok (n := n + 2 * (3 - (j + 1))) (m := 14) k2 (by decide) (by decide)
    have cc : D.nd .tup false [.int u, .int v] = cD (u, v) := rfl
    have md := memD_cDs (c := (u, v)) (o := true) (cs := cs1)
    by_cases hm : (u, v) ∈ cs1
    · rw [decide_eq_true hm] at md
      exact ⟨⟨[some s1, x1, some (.nd .lst true (cs1.map cD)), some (.int (0 + (j : Int))), y4], none⟩, ⟨[some s3, x1, some (.nd .lst true (cs1.map cD)), some (.int (0 + (j : Int))), some (cD (u, v))], none⟩, by simp, by simp [e2, e3, lim, cc, lN, md], s3, cs1, _, _, k3, n1, by omega, ok1, rfl⟩
    · rw [decide_eq_false hm] at md
      refine ⟨⟨[some s1, x1, some (.nd .lst true (cs1.map cD)), some (.int (0 + (j : Int))), y4], none⟩, ⟨[some s3, x1, some (.nd .lst true ((cs1 ++ [(u, v)]).map cD)), some (.int (0 + (j : Int))), some (cD (u, v))], none⟩, by simp, ?_, s3, cs1 ++ [(u, v)], _, _, k3, by simp, by simp; omega, fun c hc => ?_, rfl⟩
      · have len : cs1.length < 16000000 := by omega
        simp [e2, e3, lim, cc, lN, md, len]
      · rcases List.mem_append.mp hc with q | q
        · exact ok1 c q
        · have : c = (u, v) := by simpa using q
          rw [this]
          exact ⟨a2, by show u ≤ 1000; omega, a3, by show v ≤ 1000; omega⟩)
  refine ⟨s', cs', y3, y4, h1, k1.le (by omega), n1, ?_, ok1⟩
  rw [show 0 + (rngD 0 k).length = k from by simp [rngD]] at l1
  omega
abbrev Pr (d : D) (os : List (Option D)) (n : Nat) : So → Prop := fun r => ∃ e, r = .rt d e ∧ outs [0] 0 n e.sl = os
theorem drawn_is {n : Nat} {s : D} (h : Stk (n + 40) s) : ∃ (s' : D) (cs : List Cp), F_law_e_drawn_table [s] = .ok (.nd .lst true (cs.map cD)) [some s'] ∧ Stk n s' ∧ Tb18 cs := by
  obtain ⟨r0, s1, e1, a1, b1, k1⟩ := pick_ok (n := n + 39) (m := 3) h (by decide) (by decide)
  -- the couples before they are named anew
  have mid : ∃ (s2 : D) (cs : List Cp) (b : Bool) (x1 x3 x4 : Option D), (fIf (tTst (eBin eqD (eCall 2 F_law_pick (aIo 0 (aCons (eC (.int 3)) aNil))) (eC (.int 0)))) (fSeq (fAsg (gN 1) (eCall 2 F_law_pick (aIo 0 (aCons (eC (.int 25)) aNil)))) (fSeq (fAsg (gN 2) (eCall 2 F_law_straight (aCons (eN 1) (aCons (eCall 2 F_law_pick (aIo 0 (aCons (eC (.int 2)) aNil))) aNil)))) (fFor (iRng1 (aCons (eCall 2 F_law_pick (aIo 0 (aCons (eC (.int 4)) aNil))) aNil)) (gN 3) (fSeq (fAsg (gN 4) (eTup (aCons (eCall 2 F_law_pick (aIo 0 (aCons (eC (.int 14)) aNil))) (aCons (eCall 2 F_law_pick (aIo 0 (aCons (eC (.int 14)) aNil))) aNil)))) (fIf (tTst (eInL true (eN 4) (lN 2))) (fExpr (eAppN 2 (eN 4))) fNext))))) (fAsg (gN 2) (eCall 4 F_law_table (aIo 0 (aCons (eBin addD (eC (.int 1)) (eCall 2 F_law_pick (aIo 0 (aCons (eC (.int 5)) aNil)))) (aCons (eBin addD (eC (.int 1)) (eCall 2 F_law_pick (aIo 0 (aCons (eC (.int 5)) aNil)))) (aCons (eBin addD (eC (.int 1)) (eCall 2 F_law_pick (aIo 0 (aCons (eC (.int 3)) aNil)))) aNil))))))) ⟨[some s, none, none, none, none], none⟩ = .nx ⟨[some s2, x1, some (.nd .lst b (cs.map cD)), x3, x4], none⟩ ∧ Stk (n + 4) s2 ∧ cs ≠ [] ∧ cs.length ≤ 28 ∧ Tok cs := by
    by_cases z : r0 = 0
    · subst z
      obtain ⟨st, s2, e2, b2, k2⟩ := picks (n := n + 38) (m := 25) k1 (by decide) (by decide)
      obtain ⟨f, s3, e3, a3, b3, k3⟩ := pick_ok (n := n + 37) (m := 2) k2 (by decide) (by decide)
      obtain ⟨mo, s4, e4, b4, k4⟩ := picks (n := n + 36) (m := 4) k3 (by decide) (by decide)
      have sg := straight_is (first := f) (n := st) (by omega)
      obtain ⟨s5, cs, y3, y4, e5, k5, c0, cl, ok⟩ := more_is (n := n + 4) (s := s4) (cs := strZ f st) (k := mo) (x1 := some (.int (st : Int))) (x3 := none) (x4 := none) (k4.le (by omega)) (by omega) (by intro h0; have := strZ_len (first := f) (n := st); rw [h0] at this; simp at this) (by rw [strZ_len]; omega) (fun c hc => by
        obtain ⟨j, hj, rfl⟩ := List.mem_map.mp hc
        have := posZ_small (first := f) j
        rw [List.mem_range] at hj
        omega)
      have r1 : rngA1 [.int (mo : Int)] = some (rngD 0 mo) := by rw [rngA1_ok (by omega) (by omega)]; simp
      have e2' : F_law_pick [s1, .int 25] = .ok (.int (st : Int)) [some s2, none] := e2
      have e4' : F_law_pick [s3, .int 4] = .ok (.int (mo : Int)) [some s4, none] := e4
      refine ⟨s5, cs, true, some (.int (st : Int)), y3, y4, ?_, k5, c0, cl, ok⟩
      simp [e1, eqD_int, e2', e3, e4', sg, r1, -rngA1_ok]
      exact e5
    · obtain ⟨r, s2, e2, b2, k2⟩ := picks (n := n + 38) (m := 5) k1 (by decide) (by decide)
      obtain ⟨c, s3, e3, b3, k3⟩ := picks (n := n + 37) (m := 5) k2 (by decide) (by decide)
      obtain ⟨sh, s4, e4, a4, b4, k4⟩ := pick_ok (n := n + 36) (m := 3) k3 (by decide) (by decide)
      have e2' : F_law_pick [s1, .int 5] = .ok (.int (r : Int)) [some s2, none] := e2
      have e3' : F_law_pick [s2, .int 5] = .ok (.int (c : Int)) [some s3, none] := e3
      obtain ⟨s5, cs, b, e5, k5, c0, cl, ok⟩ := Lw.table_is (n := n + 4) (s := s4) (rows := r + 1) (cols := c + 1) (share := 1 + sh) (k4.le (by omega)) (by omega) (by omega) (by omega) (by omega)
      have e5' : F_law_table [s4, .int (1 + (r : Int)), .int (1 + (c : Int)), .int (1 + sh)] = .ok (.nd .lst b (cs.map cD)) [some s5, none, none, none] := by
        rw [← e5]; congr 3
        · rw [Int.natCast_add, Int.add_comm]; rfl
        · congr 2
          rw [Int.natCast_add, Int.add_comm]; rfl
      refine ⟨s5, cs, b, none, none, none, ?_, k5, c0, by omega, ok⟩
      simp [e1, eqD_int, z, e2', e3', e4, e5']
  obtain ⟨s2, cs, b, x1, x3, x4, e2, k2, c0, cl, ok⟩ := mid
  obtain ⟨s3, f, e3, k3, fb⟩ := renamed_is k2 (by omega) ok
  refine ⟨s3, cs.map f, ?_, k3, by simpa using c0, by simpa using cl, fun c hc => ?_⟩
  · unfold F_law_e_drawn_table B_law_e_drawn_table
    refine fDef_rt ?_
    show Pr (.nd .lst true ((cs.map f).map cD)) [some s3] 1 _
    refine seq_go (P := Pr (.nd .lst true ((cs.map f).map cD)) [some s3] 1) _ e2 ?_
    exact ⟨⟨[some s3, x1, some (.nd .lst false (cs.map cD)), x3, x4], none⟩, by simp [e3], by simp [outs]⟩
  · obtain ⟨c2, _, rfl⟩ := List.mem_map.mp hc
    exact fb c2
theorem question_is {n : Nat} {s : D} {cs : List Cp} (h : Stk (n + 7) s) (ok : Tb18 cs) : ∃ (s' : D) (rest goal : Cp) (first : Int), F_law_e_question [s, .nd .lst false (cs.map cD)] = .ok (.nd .tup false [cD rest, cD goal, .int first]) [some s', none] ∧ Stk n s' ∧ Sml rest ∧ Sml goal := by
  obtain ⟨c0, cl, cb⟩ := ok
  have pos : 0 < cs.length := by cases cs with
    | nil => exact absurd rfl c0
    | cons c cs => simp
  have ix : ∀ r : Nat, r < cs.length → ∃ c ∈ cs, refD (.nd .lst false (cs.map cD)) (.int (r : Int)) = some (cD c, .nd .lst false (cs.map cD)) := fun r hr => by
    refine ⟨cs[r], List.getElem_mem hr, ?_⟩
    have at_ : (cs.map cD)[r]? = some (cD cs[r]) := by rw [List.getElem?_map, List.getElem?_eq_getElem hr]; rfl
    rw [refD_nd]
    simp only [cpos_lst, List.length_map, ixN_nat hr, Option.bind_some, at_, Option.map_some, frz_cD]
    rfl
  have one : ∀ (k : Nat) (s : D) (i : Nat) (ex : FE) (r : Nat) (x2 x3 : Option D), (i = 2 ∨ i = 3) → r < cs.length → ex ⟨[some s, some (.nd .lst false (cs.map cD)), x2, x3, none, none], none⟩ = .ok (.int (r : Int)) ⟨[some s, some (.nd .lst false (cs.map cD)), x2, x3, none, none], none⟩ → True := fun _ _ _ _ _ _ _ _ _ _ => trivial
  clear one
  -- the two couples
  have draw : ∀ (k r0 : Nat) (s : D) (ex : FE) (x2 x3 : Option D), r0 < cs.length → Stk (k + 2) s → (∀ s1 : D, ex ⟨[some s1, some (.nd .lst false (cs.map cD)), x2, x3, none, none], none⟩ = .ok (.int (r0 : Int)) ⟨[some s1, some (.nd .lst false (cs.map cD)), x2, x3, none, none], none⟩) →
      ∃ (s' : D) (c : Cp), c ∈ cs ∧ Stk k s' ∧ (eIf (tTst (eBin eqD (eCall 2 F_law_pick (aIo 0 (aCons (eC (.int 2)) aNil))) (eC (.int 0)))) (eIxN 1 ex) (eIxN 1 (eCall 2 F_law_pick (aIo 0 (aCons (eCallB lenD (aIo 1 aNil)) aNil))))) ⟨[some s, some (.nd .lst false (cs.map cD)), x2, x3, none, none], none⟩ = .ok (cD c) ⟨[some s', some (.nd .lst false (cs.map cD)), x2, x3, none, none], none⟩ := fun k r0 s ex x2 x3 hr hs hex => by
    obtain ⟨r, s1, e1, a1, b1, k1⟩ := pick_ok (n := k + 1) (m := 2) hs (by decide) (by decide)
    by_cases z : r = 0
    · obtain ⟨c, hc, rf⟩ := ix r0 hr
      refine ⟨s1, c, hc, k1.le (by omega), ?_⟩
      simp only [eIf_ap, tTst_ap, eBin_ap, eCall_ap, aIo_ap, aCons_ap, eC_ap, Rs.bind_ok]
      simp [e1, eqD_int, z, hex s1, rf, -refD_nd]
    · obtain ⟨q, s2, e2, b2, k2⟩ := picks (n := k) (m := cs.length) k1 pos (by omega)
      obtain ⟨c, hc, rf⟩ := ix q b2
      refine ⟨s2, c, hc, k2, ?_⟩
      simp [e1, eqD_int, z, e2, rf, -refD_nd]
  obtain ⟨s1, rest, r1, k1, e1⟩ := draw (n + 5) 0 s (eC (.int 0)) none none pos h (fun _ => rfl)
  obtain ⟨s2, goal, g1, k2, e2⟩ := draw (n + 3) (cs.length - 1) s1 (eBin subD (eCallB lenD (aIo 1 aNil)) (eC (.int 1))) (some (cD rest)) none (by omega) k1 (fun s3 => by simp; omega)
  obtain ⟨odd, s3, e3, a3, b3, k3⟩ := pick_ok (n := n + 2) (m := 12) k2 (by decide) (by decide)
  have br := cb rest r1
  have bg := cb goal g1
  let rest' : Cp := if odd = 0 then (rest.1 + 197, rest.2) else rest
  let goal' : Cp := if odd = 1 then (goal.1, goal.2 + 197) else goal
  have i0 : ixN 2 0 = some 0 := rfl
  have i1 : ixN 2 1 = some 1 := rfl
  obtain ⟨u, s4, e4, a4, b4, k4⟩ := pick_ok (n := n + 1) (m := 12) k3 (by decide) (by decide)
  have fin : ∃ (first : Int) (s5 : D), Stk n s5 ∧ (fAsg (gN 5) (eIf (tTst (eBin eqD (eCall 2 F_law_pick (aIo 0 (aCons (eC (.int 12)) aNil))) (eC (.int 0)))) (eBin addD (eC (.int 2)) (eCall 2 F_law_pick (aIo 0 (aCons (eC (.int 3)) aNil)))) (eCall 2 F_law_pick (aIo 0 (aCons (eC (.int 2)) aNil))))) ⟨[some s3, some (.nd .lst false (cs.map cD)), some (cD rest'), some (cD goal'), some (.int odd), none], none⟩ = .nx ⟨[some s5, some (.nd .lst false (cs.map cD)), some (cD rest'), some (cD goal'), some (.int odd), some (.int first)], none⟩ := by
    by_cases z : u = 0
    · obtain ⟨v, s5, e5, a5, b5, k5⟩ := pick_ok (n := n) (m := 3) k4 (by decide) (by decide)
      exact ⟨2 + v, s5, k5, by simp [e4, eqD_int, z, e5]⟩
    · obtain ⟨v, s5, e5, a5, b5, k5⟩ := pick_ok (n := n) (m := 2) k4 (by decide) (by decide)
      exact ⟨v, s5, k5, by simp [e4, eqD_int, z, e5]⟩
  obtain ⟨first, s5, k5, fin⟩ := fin
  refine ⟨s5, rest', goal', first, ?_, k5, ?_, ?_⟩
  · unfold F_law_e_question B_law_e_question
    refine fDef_rt ?_
    show Pr (.nd .tup false [cD rest', cD goal', .int first]) [some s5, none] 2 _
    refine seq_go (P := Pr _ _ 2) ⟨[some s1, some (.nd .lst false (cs.map cD)), some (cD rest), none, none, none], none⟩ (by rw [fAsg_ap]; show Rs.toS ((eIf _ _ _) ⟨[some s, some (.nd .lst false (cs.map cD)), none, none, none, none], none⟩) _ = _; rw [e1]; simp) ?_
    refine seq_go (P := Pr _ _ 2) ⟨[some s2, some (.nd .lst false (cs.map cD)), some (cD rest), some (cD goal), none, none], none⟩ (by rw [fAsg_ap, e2]; simp) ?_
    refine seq_go (P := Pr _ _ 2) ⟨[some s3, some (.nd .lst false (cs.map cD)), some (cD rest), some (cD goal), some (.int odd), none], none⟩ (by simp [e3]) ?_
    refine seq_go (P := Pr _ _ 2) ⟨[some s3, some (.nd .lst false (cs.map cD)), some (cD rest'), some (cD goal), some (.int odd), none], none⟩ (by
      by_cases z : odd = 0
      · simp [eqD_int, z, cD, i0, i1, lim, rest']
      · simp [eqD_int, z, rest']) ?_
    refine seq_go (P := Pr _ _ 2) ⟨[some s3, some (.nd .lst false (cs.map cD)), some (cD rest'), some (cD goal'), some (.int odd), none], none⟩ (by
      by_cases z : odd = 1
      · simp [eqD_int, z, cD, i0, i1, lim, goal']
      · simp [eqD_int, z, goal']) ?_
    refine seq_go (P := Pr _ _ 2) _ fin ?_
    exact ⟨⟨[some s5, some (.nd .lst false (cs.map cD)), some (cD rest'), some (cD goal'), some (.int odd), some (.int first)], none⟩, by simp [lim], by simp [outs]⟩
  · by_cases z : odd = 0
    · rw [show rest' = (rest.1 + 197, rest.2) from if_pos z]
      exact ⟨by show 0 ≤ rest.1 + 197; omega, by show rest.1 + 197 ≤ 1000; omega, by show 0 ≤ rest.2; omega, by show rest.2 ≤ 1000; omega⟩
    · rw [show rest' = rest from if_neg z]
      exact ⟨by omega, by omega, by omega, by omega⟩
  · by_cases z : odd = 1
    · rw [show goal' = (goal.1, goal.2 + 197) from if_pos z]
      exact ⟨by show 0 ≤ goal.1; omega, by show goal.1 ≤ 1000; omega, by show 0 ≤ goal.2 + 197; omega, by show goal.2 + 197 ≤ 1000; omega⟩
    · rw [show goal' = goal from if_neg z]
      exact ⟨by omega, by omega, by omega, by omega⟩
theorem okQ_cD {n : Nat} {c : Cp} : okQ (n + 2) (cD c) = true := by
  unfold cD okQ
  simp [okQ]
theorem okQ_cs {n : Nat} {o : Bool} {cs : List Cp} : okQ (n + 3) (.nd .lst o (cs.map cD)) = true := by
  unfold okQ
  rw [List.all_eq_true]
  intro d hd
  obtain ⟨c, _, rfl⟩ := List.mem_map.mp hd
  exact okQ_cD
theorem ans_frz {cs : List Cp} {rest goal : Cp} {first : Int} {d : D} (h : AnsIs cs rest goal first d) : AnsIs cs rest goal first (frz d) := by
  rcases h with ⟨a, rfl⟩ | ⟨a, b, rfl⟩ | ⟨a, b, ⟨rfl, c⟩ | ⟨o, t, r, rfl, l⟩⟩
  · exact .inl ⟨a, rfl⟩
  · exact .inr (.inl ⟨a, b, rfl⟩)
  · exact .inr (.inr ⟨a, b, .inl ⟨rfl, c⟩⟩)
  · exact .inr (.inr ⟨a, b, .inr ⟨false, t, r, by simp, l⟩⟩)
/-- a kept answer -/
def Ent (cs0 cs1 : List Cp) (x : D) : Prop := ∃ (j : Nat) (rest goal : Cp) (first : Int) (due : D), j < 2 ∧ x = .nd .tup false [.int (j : Int), cD rest, cD goal, .int first, due] ∧ AnsIs (if j = 0 then cs0 else cs1) rest goal first due ∧ frz due = due
theorem ent_frz {cs0 cs1 : List Cp} {x : D} (h : Ent cs0 cs1 x) : frz x = x := by
  obtain ⟨j, rest, goal, first, due, _, rfl, _, h⟩ := h
  simp [h]
theorem ents_frz {cs0 cs1 : List Cp} : ∀ {K : List D}, (∀ x ∈ K, Ent cs0 cs1 x) → frzs K = K
  | [], _ => rfl
  | x :: K, h => by rw [frzs_cons, ent_frz (h x List.mem_cons_self), ents_frz fun y hy => h y (List.mem_cons_of_mem _ hy)]
abbrev tbs (cs0 cs1 : List Cp) (b0 b1 : Bool) : D := .nd .lst true [.nd .lst b0 (cs0.map cD), .nd .lst b1 (cs1.map cD)]
abbrev fL (N s0 s1 T : D) (K : List D) (x4 x5 x6 x7 x8 x9 x10 x11 x12 x13 x14 : Option D) : En := ⟨[some N, some (.nd .lst true [s0, s1]), some T, some (.nd .lst true K), x4, x5, x6, x7, x8, x9, x10, x11, x12, x13, x14, none], none⟩
def Inv (N : D) (cs0 cs1 : List Cp) (n m : Nat) (b0 b1 : Bool) (e : En) : Prop := ∃ (s0 s1 : D) (K : List D) (x4 x5 x6 x7 x8 x9 x10 x11 x12 x13 x14 : Option D), e = fL N s0 s1 (tbs cs0 cs1 b0 b1) K x4 x5 x6 x7 x8 x9 x10 x11 x12 x13 x14 ∧ Stk n s0 ∧ Stk n s1 ∧ (∀ x ∈ K, Ent cs0 cs1 x) ∧ K.length ≤ m
noncomputable abbrev bI : FS := (fSeq (fAsg (gN 10) (eIxN 2 (eN 5))) (fSeq (fAsg (gT 3 (gsCons (gN 6) (gsCons (gN 7) (gsCons (gN 8) gsNil)))) (eCallP 2 F_law_e_question (lIx (lN 1) (qL (lN 5))) [(qL (lN 10))])) (fSeq (fAsg (gN 9) (eCall 4 F_law_e_due (aCons (eN 10) (aCons (eN 6) (aCons (eN 7) (aCons (eN 8) aNil)))))) (fSeq (fAsg (gN 13) (eCallF listD (aCons (eN 10) aNil))) (fSeq (fAsg (gN 14) (eCall 4 F_law_e_asked (aCons (eN 13) (aCons (eN 6) (aCons (eN 7) (aCons (eN 8) aNil)))))) (fSeq (fIf (tOr (tNt (tTst (eCallV 2 (F_law_same 8) (aIo 14 (aIo 9 aNil))))) (tTst (eBin neD (eN 13) (eN 10)))) (fRet (eC (.bl false))) fNext) (fSeq (fExpr (eAppN 3 (eTup (aCons (eN 5) (aCons (eN 6) (aCons (eN 7) (aCons (eN 8) (aCons (eN 9) aNil)))))))) (fIf (tTst (eCallB isiD (aIo 14 (aCons (eC (.ty "list")) aNil)))) (fExpr (eAppN 14 (eIxN 14 (eC (.int 0))))) fNext))))))))
theorem stk_own {n : Nat} {s : D} (h : Stk n s) : s.isF = false := by
  obtain ⟨a, b, c, rfl, _⟩ := h
  rfl
theorem body0 {N : D} {cs0 cs1 : List Cp} {n m : Nat} {b0 b1 : Bool} {s0 s1 : D} {K : List D} {x4 x6 x7 x8 x9 x10 x11 x12 x13 x14 : Option D} (t0 : Tb18 cs0) (t1 : Tb18 cs1) (h0 : Stk (n + 7) s0) (h1 : Stk (n + 7) s1) (hK : ∀ x ∈ K, Ent cs0 cs1 x) (hm : K.length ≤ m) (hm2 : m < 1000) :
    ∃ e', bI (fL N s0 s1 (tbs cs0 cs1 b0 b1) K x4 (some (.int 0)) x6 x7 x8 x9 x10 x11 x12 x13 x14) = .nx e' ∧ Inv N cs0 cs1 n (m + 1) false b1 e' := by
  obtain ⟨s', rest, goal, first, q1, q2, sr, sg⟩ := question_is (n := n) h0 t0
  have cl : cs0.length < 64 := by have := t0.2.1; omega
  have sb : ∀ c ∈ cs0, Sml c := fun c hc => by
    have := t0.2.2 c hc
    exact ⟨by omega, by omega, by omega, by omega⟩
  obtain ⟨due, d1, d2⟩ := due_is (rest := rest) (goal := goal) (first := first) cl
  obtain ⟨ans, a1, a2, a3⟩ := asked_is (rest := rest) (goal := goal) (first := first) (o := false) cl
  have sm : F_law_same 8 [frz ans, frz due] = .ok (.bl true) [none, none] := same_ok 8 _ _ (by rw [frz_frz, frz_frz]; exact ans_same (fun _ => Iff.rfl) a2 d2) (ans_ok (ans_frz d2) sb cl)
  have nd1 := ans_noDk a2
  have nd2 := ans_noDk d2
  have ne : neD (.nd .lst false (cs0.map cD)) (.nd .lst false (cs0.map cD)) = some (.bl false) := neD_f okQ_cs okQ_cs rfl
  have ij : ixN 2 0 = some 0 := rfl
  have e0 : fAsg (gN 10) (eIxN 2 (eN 5)) (fL N s0 s1 (tbs cs0 cs1 b0 b1) K x4 (some (.int 0)) x6 x7 x8 x9 x10 x11 x12 x13 x14) = .nx (fL N s0 s1 (tbs cs0 cs1 false b1) K x4 (some (.int 0)) x6 x7 x8 x9 (some (.nd .lst false (cs0.map cD))) x11 x12 x13 x14) := by
    simp [ij]
  have pl : (lIx (lN 1) (qL (lN 5))) (fL N s0 s1 (tbs cs0 cs1 false b1) K x4 (some (.int 0)) x6 x7 x8 x9 (some (.nd .lst false (cs0.map cD))) x11 x12 x13 x14) = some (s0, fun d => fL N d s1 (tbs cs0 cs1 false b1) K x4 (some (.int 0)) x6 x7 x8 x9 (some (.nd .lst false (cs0.map cD))) x11 x12 x13 x14) := by
    simp [lN, ij]
  have e1 : fAsg (gT 3 (gsCons (gN 6) (gsCons (gN 7) (gsCons (gN 8) gsNil)))) (eCallP 2 F_law_e_question (lIx (lN 1) (qL (lN 5))) [(qL (lN 10))]) (fL N s0 s1 (tbs cs0 cs1 false b1) K x4 (some (.int 0)) x6 x7 x8 x9 (some (.nd .lst false (cs0.map cD))) x11 x12 x13 x14) = .nx (fL N s' s1 (tbs cs0 cs1 false b1) K x4 (some (.int 0)) (some (cD rest)) (some (cD goal)) (some (.int first)) x9 (some (.nd .lst false (cs0.map cD))) x11 x12 x13 x14) := by
    rw [fAsg_ap, eCallP_at (n := 2) (F := F_law_e_question) (qs := [(qL (lN 10))]) (ds := [.nd .lst false (cs0.map cD)]) pl (by simp [lN]) (stk_own h0) rfl]
    simp [q1, gT]
  have e2 : fAsg (gN 9) (eCall 4 F_law_e_due (aCons (eN 10) (aCons (eN 6) (aCons (eN 7) (aCons (eN 8) aNil))))) (fL N s' s1 (tbs cs0 cs1 false b1) K x4 (some (.int 0)) (some (cD rest)) (some (cD goal)) (some (.int first)) x9 (some (.nd .lst false (cs0.map cD))) x11 x12 x13 x14) = .nx (fL N s' s1 (tbs cs0 cs1 false b1) K x4 (some (.int 0)) (some (cD rest)) (some (cD goal)) (some (.int first)) (some due) (some (.nd .lst false (cs0.map cD))) x11 x12 x13 x14) := by
    simp [d1]
  have e3 : fAsg (gN 13) (eCallF listD (aCons (eN 10) aNil)) (fL N s' s1 (tbs cs0 cs1 false b1) K x4 (some (.int 0)) (some (cD rest)) (some (cD goal)) (some (.int first)) (some due) (some (.nd .lst false (cs0.map cD))) x11 x12 x13 x14) = .nx (fL N s' s1 (tbs cs0 cs1 false b1) K x4 (some (.int 0)) (some (cD rest)) (some (cD goal)) (some (.int first)) (some due) (some (.nd .lst false (cs0.map cD))) x11 x12 (some (.nd .lst true (cs0.map cD))) x14) := by
    simp
  have e4 : fAsg (gN 14) (eCall 4 F_law_e_asked (aCons (eN 13) (aCons (eN 6) (aCons (eN 7) (aCons (eN 8) aNil))))) (fL N s' s1 (tbs cs0 cs1 false b1) K x4 (some (.int 0)) (some (cD rest)) (some (cD goal)) (some (.int first)) (some due) (some (.nd .lst false (cs0.map cD))) x11 x12 (some (.nd .lst true (cs0.map cD))) x14) = .nx (fL N s' s1 (tbs cs0 cs1 false b1) K x4 (some (.int 0)) (some (cD rest)) (some (cD goal)) (some (.int first)) (some due) (some (.nd .lst false (cs0.map cD))) x11 x12 (some (.nd .lst false (cs0.map cD))) (some ans)) := by
    simp [a1]
  have e5 : fIf (tOr (tNt (tTst (eCallV 2 (F_law_same 8) (aIo 14 (aIo 9 aNil))))) (tTst (eBin neD (eN 13) (eN 10)))) (fRet (eC (.bl false))) fNext (fL N s' s1 (tbs cs0 cs1 false b1) K x4 (some (.int 0)) (some (cD rest)) (some (cD goal)) (some (.int first)) (some due) (some (.nd .lst false (cs0.map cD))) x11 x12 (some (.nd .lst false (cs0.map cD))) (some ans)) = .nx (fL N s' s1 (tbs cs0 cs1 false b1) K x4 (some (.int 0)) (some (cD rest)) (some (cD goal)) (some (.int first)) (some due) (some (.nd .lst false (cs0.map cD))) x11 x12 (some (.nd .lst false (cs0.map cD))) (some ans)) := by
    simp [nd1, nd2, sm, ne]
  have kl : K.length < 16000000 := by omega
  have e6 : fExpr (eAppN 3 (eTup (aCons (eN 5) (aCons (eN 6) (aCons (eN 7) (aCons (eN 8) (aCons (eN 9) aNil))))))) (fL N s' s1 (tbs cs0 cs1 false b1) K x4 (some (.int 0)) (some (cD rest)) (some (cD goal)) (some (.int first)) (some due) (some (.nd .lst false (cs0.map cD))) x11 x12 (some (.nd .lst false (cs0.map cD))) (some ans)) = .nx (fL N s' s1 (tbs cs0 cs1 false b1) (K ++ [.nd .tup false [.int 0, cD rest, cD goal, .int first, frz due]]) x4 (some (.int 0)) (some (cD rest)) (some (cD goal)) (some (.int first)) (some (frz due)) (some (.nd .lst false (cs0.map cD))) x11 x12 (some (.nd .lst false (cs0.map cD))) (some ans)) := by
    simp [lim, kl]
  have e7 : ∃ y14, fIf (tTst (eCallB isiD (aIo 14 (aCons (eC (.ty "list")) aNil)))) (fExpr (eAppN 14 (eIxN 14 (eC (.int 0))))) fNext (fL N s' s1 (tbs cs0 cs1 false b1) (K ++ [.nd .tup false [.int 0, cD rest, cD goal, .int first, frz due]]) x4 (some (.int 0)) (some (cD rest)) (some (cD goal)) (some (.int first)) (some (frz due)) (some (.nd .lst false (cs0.map cD))) x11 x12 (some (.nd .lst false (cs0.map cD))) (some ans)) = .nx (fL N s' s1 (tbs cs0 cs1 false b1) (K ++ [.nd .tup false [.int 0, cD rest, cD goal, .int first, frz due]]) x4 (some (.int 0)) (some (cD rest)) (some (cD goal)) (some (.int first)) (some (frz due)) (some (.nd .lst false (cs0.map cD))) x11 x12 (some (.nd .lst false (cs0.map cD))) y14) := by
    rcases a3 with rfl | ⟨w, rfl⟩ | ⟨ws, rfl, w0, wl⟩
    · have il : isiD [.non, .ty "list"] = some (.bl false) := rfl
      exact ⟨_, by simp [il]; rfl⟩
    · have il : isiD [refD1 w, .ty "list"] = some (.bl false) := rfl
      exact ⟨_, by simp [il]; rfl⟩
    · have il : isiD [.nd .lst true (ws.map cD), .ty "list"] = some (.bl true) := rfl
      cases ws with
      | nil => exact absurd rfl w0
      | cons c ws =>
        have i0 : ixN (ws.length + 1) 0 = some 0 := ixN_nat (j := 0) (by omega)
        have ln : ws.length + 1 < 16000000 := by simp at wl; omega
        refine ⟨some (.nd .lst true (cD c :: (ws.map cD ++ [cD c]))), ?_⟩
        simp at il
        simp [il, i0, lim, ln]
  obtain ⟨y14, e7⟩ := e7
  refine ⟨fL N s' s1 (tbs cs0 cs1 false b1) (K ++ [.nd .tup false [.int 0, cD rest, cD goal, .int first, frz due]]) x4 (some (.int 0)) (some (cD rest)) (some (cD goal)) (some (.int first)) (some (frz due)) (some (.nd .lst false (cs0.map cD))) x11 x12 (some (.nd .lst false (cs0.map cD))) y14, ?_, s', s1, K ++ [.nd .tup false [.int 0, cD rest, cD goal, .int first, frz due]], _, _, _, _, _, _, _, _, _, _, _, rfl, q2, (h1.le (by omega)), fun x hx => ?_, by simp; omega⟩
  · unfold bI
    rw [fSeq_ap, e0, So.sq_nx, fSeq_ap, e1, So.sq_nx, fSeq_ap, e2, So.sq_nx, fSeq_ap, e3, So.sq_nx, fSeq_ap, e4, So.sq_nx, fSeq_ap, e5, So.sq_nx, fSeq_ap, e6, So.sq_nx, e7]
  · rcases List.mem_append.mp hx with q | q
    · exact hK x q
    · have e : x = .nd .tup false [.int 0, cD rest, cD goal, .int first, frz due] := by simpa using q
      exact ⟨0, rest, goal, first, frz due, by omega, e, ans_frz d2, frz_frz _⟩
theorem body1 {N : D} {cs0 cs1 : List Cp} {n m : Nat} {b0 b1 : Bool} {s0 s1 : D} {K : List D} {x4 x6 x7 x8 x9 x10 x11 x12 x13 x14 : Option D} (t0 : Tb18 cs0) (t1 : Tb18 cs1) (h0 : Stk (n + 7) s0) (h1 : Stk (n + 7) s1) (hK : ∀ x ∈ K, Ent cs0 cs1 x) (hm : K.length ≤ m) (hm2 : m < 1000) :
    ∃ e', bI (fL N s0 s1 (tbs cs0 cs1 b0 b1) K x4 (some (.int 1)) x6 x7 x8 x9 x10 x11 x12 x13 x14) = .nx e' ∧ Inv N cs0 cs1 n (m + 1) b0 false e' := by
  obtain ⟨s', rest, goal, first, q1, q2, sr, sg⟩ := question_is (n := n) h1 t1
  have cl : cs1.length < 64 := by have := t1.2.1; omega
  have sb : ∀ c ∈ cs1, Sml c := fun c hc => by
    have := t1.2.2 c hc
    exact ⟨by omega, by omega, by omega, by omega⟩
  obtain ⟨due, d1, d2⟩ := due_is (rest := rest) (goal := goal) (first := first) cl
  obtain ⟨ans, a1, a2, a3⟩ := asked_is (rest := rest) (goal := goal) (first := first) (o := false) cl
  have sm : F_law_same 8 [frz ans, frz due] = .ok (.bl true) [none, none] := same_ok 8 _ _ (by rw [frz_frz, frz_frz]; exact ans_same (fun _ => Iff.rfl) a2 d2) (ans_ok (ans_frz d2) sb cl)
  have nd1 := ans_noDk a2
  have nd2 := ans_noDk d2
  have ne : neD (.nd .lst false (cs1.map cD)) (.nd .lst false (cs1.map cD)) = some (.bl false) := neD_f okQ_cs okQ_cs rfl
  have ij : ixN 2 1 = some 1 := rfl
  have e0 : fAsg (gN 10) (eIxN 2 (eN 5)) (fL N s0 s1 (tbs cs0 cs1 b0 b1) K x4 (some (.int 1)) x6 x7 x8 x9 x10 x11 x12 x13 x14) = .nx (fL N s0 s1 (tbs cs0 cs1 b0 false) K x4 (some (.int 1)) x6 x7 x8 x9 (some (.nd .lst false (cs1.map cD))) x11 x12 x13 x14) := by
    simp [ij]
  have pl : (lIx (lN 1) (qL (lN 5))) (fL N s0 s1 (tbs cs0 cs1 b0 false) K x4 (some (.int 1)) x6 x7 x8 x9 (some (.nd .lst false (cs1.map cD))) x11 x12 x13 x14) = some (s1, fun d => fL N s0 d (tbs cs0 cs1 b0 false) K x4 (some (.int 1)) x6 x7 x8 x9 (some (.nd .lst false (cs1.map cD))) x11 x12 x13 x14) := by
    simp [lN, ij]
  have e1 : fAsg (gT 3 (gsCons (gN 6) (gsCons (gN 7) (gsCons (gN 8) gsNil)))) (eCallP 2 F_law_e_question (lIx (lN 1) (qL (lN 5))) [(qL (lN 10))]) (fL N s0 s1 (tbs cs0 cs1 b0 false) K x4 (some (.int 1)) x6 x7 x8 x9 (some (.nd .lst false (cs1.map cD))) x11 x12 x13 x14) = .nx (fL N s0 s' (tbs cs0 cs1 b0 false) K x4 (some (.int 1)) (some (cD rest)) (some (cD goal)) (some (.int first)) x9 (some (.nd .lst false (cs1.map cD))) x11 x12 x13 x14) := by
    rw [fAsg_ap, eCallP_at (n := 2) (F := F_law_e_question) (qs := [(qL (lN 10))]) (ds := [.nd .lst false (cs1.map cD)]) pl (by simp [lN]) (stk_own h1) rfl]
    simp [q1, gT]
  have e2 : fAsg (gN 9) (eCall 4 F_law_e_due (aCons (eN 10) (aCons (eN 6) (aCons (eN 7) (aCons (eN 8) aNil))))) (fL N s0 s' (tbs cs0 cs1 b0 false) K x4 (some (.int 1)) (some (cD rest)) (some (cD goal)) (some (.int first)) x9 (some (.nd .lst false (cs1.map cD))) x11 x12 x13 x14) = .nx (fL N s0 s' (tbs cs0 cs1 b0 false) K x4 (some (.int 1)) (some (cD rest)) (some (cD goal)) (some (.int first)) (some due) (some (.nd .lst false (cs1.map cD))) x11 x12 x13 x14) := by
    simp [d1]
  have e3 : fAsg (gN 13) (eCallF listD (aCons (eN 10) aNil)) (fL N s0 s' (tbs cs0 cs1 b0 false) K x4 (some (.int 1)) (some (cD rest)) (some (cD goal)) (some (.int first)) (some due) (some (.nd .lst false (cs1.map cD))) x11 x12 x13 x14) = .nx (fL N s0 s' (tbs cs0 cs1 b0 false) K x4 (some (.int 1)) (some (cD rest)) (some (cD goal)) (some (.int first)) (some due) (some (.nd .lst false (cs1.map cD))) x11 x12 (some (.nd .lst true (cs1.map cD))) x14) := by
    simp
  have e4 : fAsg (gN 14) (eCall 4 F_law_e_asked (aCons (eN 13) (aCons (eN 6) (aCons (eN 7) (aCons (eN 8) aNil))))) (fL N s0 s' (tbs cs0 cs1 b0 false) K x4 (some (.int 1)) (some (cD rest)) (some (cD goal)) (some (.int first)) (some due) (some (.nd .lst false (cs1.map cD))) x11 x12 (some (.nd .lst true (cs1.map cD))) x14) = .nx (fL N s0 s' (tbs cs0 cs1 b0 false) K x4 (some (.int 1)) (some (cD rest)) (some (cD goal)) (some (.int first)) (some due) (some (.nd .lst false (cs1.map cD))) x11 x12 (some (.nd .lst false (cs1.map cD))) (some ans)) := by
    simp [a1]
  have e5 : fIf (tOr (tNt (tTst (eCallV 2 (F_law_same 8) (aIo 14 (aIo 9 aNil))))) (tTst (eBin neD (eN 13) (eN 10)))) (fRet (eC (.bl false))) fNext (fL N s0 s' (tbs cs0 cs1 b0 false) K x4 (some (.int 1)) (some (cD rest)) (some (cD goal)) (some (.int first)) (some due) (some (.nd .lst false (cs1.map cD))) x11 x12 (some (.nd .lst false (cs1.map cD))) (some ans)) = .nx (fL N s0 s' (tbs cs0 cs1 b0 false) K x4 (some (.int 1)) (some (cD rest)) (some (cD goal)) (some (.int first)) (some due) (some (.nd .lst false (cs1.map cD))) x11 x12 (some (.nd .lst false (cs1.map cD))) (some ans)) := by
    simp [nd1, nd2, sm, ne]
  have kl : K.length < 16000000 := by omega
  have e6 : fExpr (eAppN 3 (eTup (aCons (eN 5) (aCons (eN 6) (aCons (eN 7) (aCons (eN 8) (aCons (eN 9) aNil))))))) (fL N s0 s' (tbs cs0 cs1 b0 false) K x4 (some (.int 1)) (some (cD rest)) (some (cD goal)) (some (.int first)) (some due) (some (.nd .lst false (cs1.map cD))) x11 x12 (some (.nd .lst false (cs1.map cD))) (some ans)) = .nx (fL N s0 s' (tbs cs0 cs1 b0 false) (K ++ [.nd .tup false [.int 1, cD rest, cD goal, .int first, frz due]]) x4 (some (.int 1)) (some (cD rest)) (some (cD goal)) (some (.int first)) (some (frz due)) (some (.nd .lst false (cs1.map cD))) x11 x12 (some (.nd .lst false (cs1.map cD))) (some ans)) := by
    simp [lim, kl]
  have e7 : ∃ y14, fIf (tTst (eCallB isiD (aIo 14 (aCons (eC (.ty "list")) aNil)))) (fExpr (eAppN 14 (eIxN 14 (eC (.int 0))))) fNext (fL N s0 s' (tbs cs0 cs1 b0 false) (K ++ [.nd .tup false [.int 1, cD rest, cD goal, .int first, frz due]]) x4 (some (.int 1)) (some (cD rest)) (some (cD goal)) (some (.int first)) (some (frz due)) (some (.nd .lst false (cs1.map cD))) x11 x12 (some (.nd .lst false (cs1.map cD))) (some ans)) = .nx (fL N s0 s' (tbs cs0 cs1 b0 false) (K ++ [.nd .tup false [.int 1, cD rest, cD goal, .int first, frz due]]) x4 (some (.int 1)) (some (cD rest)) (some (cD goal)) (some (.int first)) (some (frz due)) (some (.nd .lst false (cs1.map cD))) x11 x12 (some (.nd .lst false (cs1.map cD))) y14) := by
    rcases a3 with rfl | ⟨w, rfl⟩ | ⟨ws, rfl, w0, wl⟩
    · have il : isiD [.non, .ty "list"] = some (.bl false) := rfl
      exact ⟨_, by simp [il]; rfl⟩
    · have il : isiD [refD1 w, .ty "list"] = some (.bl false) := rfl
      exact ⟨_, by simp [il]; rfl⟩
    · have il : isiD [.nd .lst true (ws.map cD), .ty "list"] = some (.bl true) := rfl
      cases ws with
      | nil => exact absurd rfl w0
      | cons c ws =>
        have i0 : ixN (ws.length + 1) 0 = some 0 := ixN_nat (j := 0) (by omega)
        have ln : ws.length + 1 < 16000000 := by simp at wl; omega
        refine ⟨some (.nd .lst true (cD c :: (ws.map cD ++ [cD c]))), ?_⟩
        simp at il
        simp [il, i0, lim, ln]
  obtain ⟨y14, e7⟩ := e7
  refine ⟨fL N s0 s' (tbs cs0 cs1 b0 false) (K ++ [.nd .tup false [.int 1, cD rest, cD goal, .int first, frz due]]) x4 (some (.int 1)) (some (cD rest)) (some (cD goal)) (some (.int first)) (some (frz due)) (some (.nd .lst false (cs1.map cD))) x11 x12 (some (.nd .lst false (cs1.map cD))) y14, ?_, s0, s', K ++ [.nd .tup false [.int 1, cD rest, cD goal, .int first, frz due]], _, _, _, _, _, _, _, _, _, _, _, rfl, (h0.le (by omega)), q2, fun x hx => ?_, by simp; omega⟩
  · unfold bI
    rw [fSeq_ap, e0, So.sq_nx, fSeq_ap, e1, So.sq_nx, fSeq_ap, e2, So.sq_nx, fSeq_ap, e3, So.sq_nx, fSeq_ap, e4, So.sq_nx, fSeq_ap, e5, So.sq_nx, fSeq_ap, e6, So.sq_nx, e7]
  · rcases List.mem_append.mp hx with q | q
    · exact hK x q
    · have e : x = .nd .tup false [.int 1, cD rest, cD goal, .int first, frz due] := by simpa using q
      exact ⟨1, rest, goal, first, frz due, by omega, e, ans_frz d2, frz_frz _⟩
theorem turn_is {N : D} {cs0 cs1 : List Cp} {n m : Nat} {b0 b1 : Bool} {e : En} (t0 : Tb18 cs0) (t1 : Tb18 cs1) (h : Inv N cs0 cs1 (n + 14) m b0 b1 e) (hm : m < 900) : ∃ e', fFor (iRng1 (aCons (eC (.int 2)) aNil)) (gN 5) bI e = .nx e' ∧ Inv N cs0 cs1 n (m + 2) false false e' := by
  obtain ⟨s0, s1, K, x4, x5, x6, x7, x8, x9, x10, x11, x12, x13, x14, rfl, k0, k1, hK, hl⟩ := h
  obtain ⟨e1, f1, s0', s1', K', y4, y5, y6, y7, y8, y9, y10, y11, y12, y13, y14, rfl, k0', k1', hK', hl'⟩ := body0 (N := N) (n := n + 7) (m := m) (b0 := b0) (b1 := b1) (x4 := x4) (x6 := x6) (x7 := x7) (x8 := x8) (x9 := x9) (x10 := x10) (x11 := x11) (x12 := x12) (x13 := x13) (x14 := x14) t0 t1 k0 k1 hK hl (by omega)
  obtain ⟨e2, f2, inv⟩ := body1 (N := N) (n := n) (m := m + 1) (b0 := false) (b1 := b1) (x4 := y4) (x6 := y6) (x7 := y7) (x8 := y8) (x9 := y9) (x10 := y10) (x11 := y11) (x12 := y12) (x13 := y13) (x14 := y14) t0 t1 k0' k1' hK' hl' (by omega)
  refine ⟨e2, ?_, inv⟩
  have r1 : rngA1 [.int 2] = some [.int 0, .int 1] := rfl
  simp [-rngA1_ok, r1]
  rw [forL_step (by simp) f1, forL_step (by simp) f2]
  rfl
theorem set4 {N : D} {cs0 cs1 : List Cp} {n m : Nat} {b0 b1 : Bool} {e : En} {d : D} (h : Inv N cs0 cs1 n m b0 b1 e) : ∃ e', gN 4 d e = some e' ∧ Inv N cs0 cs1 n m b0 b1 e' := by
  obtain ⟨s0, s1, K, x4, x5, x6, x7, x8, x9, x10, x11, x12, x13, x14, rfl, k0, k1, hK, hl⟩ := h
  exact ⟨fL N s0 s1 (tbs cs0 cs1 b0 b1) K (some d) x5 x6 x7 x8 x9 x10 x11 x12 x13 x14, by simp, s0, s1, K, _, _, _, _, _, _, _, _, _, _, _, rfl, k0, k1, hK, hl⟩
theorem loops_is {N : D} {cs0 cs1 : List Cp} {n : Nat} {e : En} (t0 : Tb18 cs0) (t1 : Tb18 cs1) (h : Inv N cs0 cs1 (n + 42) 0 true true e) : ∃ e', fFor (iRng1 (aCons (eC (.int 3)) aNil)) (gN 4) (fFor (iRng1 (aCons (eC (.int 2)) aNil)) (gN 5) bI) e = .nx e' ∧ Inv N cs0 cs1 n 6 false false e' := by
  obtain ⟨e1, g1, h1⟩ := set4 (d := .int 0) h
  obtain ⟨e2, f2, h2⟩ := turn_is (n := n + 28) t0 t1 h1 (by omega)
  obtain ⟨e3, g3, h3⟩ := set4 (d := .int 1) h2
  obtain ⟨e4, f4, h4⟩ := turn_is (n := n + 14) t0 t1 h3 (by omega)
  obtain ⟨e5, g5, h5⟩ := set4 (d := .int 2) h4
  obtain ⟨e6, f6, h6⟩ := turn_is (n := n) t0 t1 h5 (by omega)
  refine ⟨e6, ?_, h6⟩
  have r1 : rngA1 [.int 3] = some [.int 0, .int 1, .int 2] := rfl
  rw [fFor_ap, iRng1_ap, aCons_ap, eC_ap, Rs.bind_ok, kCons_ap, aNil_ap, Rs.bind_ok, kCons2_ap, Rs.bind_ok, kRng_ap]
  simp only [dvs_cons, dvs_nil, Option.bind_some, r1, Rs.opt_some, Rs.toS_ok, kFor_ap]
  rw [forL_step g1 f2, forL_step g3 f4, forL_step g5 f6]
  rfl
noncomputable abbrev bF : FS := (fSeq (fAsg (gN 12) (eCallP 2 F_law_shuffled (lIx (lN 1) (qL (lN 5))) [(qL (lIx (lN 2) (qL (lN 5))))])) (fIf (tNt (tTst (eCallV 2 (F_law_same 8) (aCons (eCall 4 F_law_e_asked (aCons (eBin addD (eN 12) (eSl (eN 12) none (some (eC (.int 1))))) (aCons (eN 6) (aCons (eN 7) (aCons (eN 8) aNil))))) (aIo 9 aNil))))) (fRet (eC (.bl false))) fNext))
abbrev fE (N s0 s1 T : D) (K : List D) (x4 x5 x6 x7 x8 x9 x10 x11 x12 x13 x14 : Option D) : En := ⟨[some N, some (.nd .lst true [s0, s1]), some T, some (.nd .lst false K), x4, x5, x6, x7, x8, x9, x10, x11, x12, x13, x14, none], none⟩
theorem again0 {N : D} {cs0 cs1 : List Cp} {n : Nat} {s0 s1 : D} {K : List D} {rest goal : Cp} {first : Int} {due : D} {x4 x10 x11 x12 x13 x14 : Option D} (t : Tb18 cs0) (h0 : Stk (n + 28) s0) (h1 : Stk (n + 28) s1) (ha : AnsIs cs0 rest goal first due) (hf : frz due = due) :
    ∃ (s0' s1' : D) (y12 : Option D), bF (fE N s0 s1 (tbs cs0 cs1 false false) K x4 (some (.int 0)) (some (cD rest)) (some (cD goal)) (some (.int first)) (some due) x10 x11 x12 x13 x14) = .nx (fE N s0' s1' (tbs cs0 cs1 false false) K x4 (some (.int 0)) (some (cD rest)) (some (cD goal)) (some (.int first)) (some due) x10 x11 y12 x13 x14) ∧ Stk n s0' ∧ Stk n s1' := by
  have cl : cs0.length ≤ 28 := t.2.1
  have sb : ∀ c ∈ cs0, Sml c := fun c hc => by
    have := t.2.2 c hc
    exact ⟨by omega, by omega, by omega, by omega⟩
  obtain ⟨s', cs', q1, q2, pm⟩ := shuffled_is (cs := cs0) (by omega) (n := n) (h0.le (by omega))
  have pl := pm.length_eq
  have pos : 0 < cs0.length := by
    cases h : cs0 with
    | nil => exact absurd h t.1
    | cons c cs => simp
  have mem : ∀ c, c ∈ cs' ++ cs'.take 1 ↔ c ∈ cs0 := fun c => by
    rw [List.mem_append, pm.mem_iff]
    constructor
    · rintro (q | q)
      · exact q
      · exact pm.mem_iff.mp (List.mem_of_mem_take q)
    · exact .inl
  obtain ⟨ans, a1, a2, _⟩ := asked_is (cs := cs' ++ cs'.take 1) (rest := rest) (goal := goal) (first := first) (o := true) (by simp; omega)
  have sm : F_law_same 8 [frz ans, frz due] = .ok (.bl true) [none, none] := same_ok 8 _ _ (by rw [frz_frz, frz_frz]; exact ans_same mem a2 ha) (ans_ok (ans_frz ha) sb (by omega))
  rw [hf] at sm
  have nd1 := ans_noDk a2
  have nd2 := ans_noDk ha
  have ij : ixN 2 0 = some 0 := rfl
  have pl0 : (lIx (lN 1) (qL (lN 5))) (fE N s0 s1 (tbs cs0 cs1 false false) K x4 (some (.int 0)) (some (cD rest)) (some (cD goal)) (some (.int first)) (some due) x10 x11 x12 x13 x14) = some (s0, fun d => fE N d s1 (tbs cs0 cs1 false false) K x4 (some (.int 0)) (some (cD rest)) (some (cD goal)) (some (.int first)) (some due) x10 x11 x12 x13 x14) := by
    simp [lN, ij]
  have e1 : fAsg (gN 12) (eCallP 2 F_law_shuffled (lIx (lN 1) (qL (lN 5))) [(qL (lIx (lN 2) (qL (lN 5))))]) (fE N s0 s1 (tbs cs0 cs1 false false) K x4 (some (.int 0)) (some (cD rest)) (some (cD goal)) (some (.int first)) (some due) x10 x11 x12 x13 x14) = .nx (fE N s' s1 (tbs cs0 cs1 false false) K x4 (some (.int 0)) (some (cD rest)) (some (cD goal)) (some (.int first)) (some due) x10 x11 (some (.nd .lst true (cs'.map cD))) x13 x14) := by
    rw [fAsg_ap, eCallP_at (n := 2) (F := F_law_shuffled) (qs := [(qL (lIx (lN 2) (qL (lN 5))))]) (ds := [.nd .lst false (cs0.map cD)]) pl0 (by simp [lN, ij]) (stk_own h0) rfl]
    simp [q1]
  have cut : cutD (cs'.map cD) none (some 1) = (cs'.take 1).map cD := by
    have := cutD_upto (xs := cs'.map cD) (k := 1) (by rw [List.length_map]; omega)
    rw [List.map_take]
    exact this
  have ad : addD (.nd .lst false (cs'.map cD)) (.nd .lst false ((cs'.take 1).map cD)) = some (.nd .lst true ((cs' ++ cs'.take 1).map cD)) := by
    rw [addD_lst, if_pos (by simp [lim]; omega), List.map_append]
  refine ⟨s', s1, some (.nd .lst false (cs'.map cD)), ?_, q2, (h1.le (by omega))⟩
  unfold bF
  rw [fSeq_ap, e1, So.sq_nx]
  simp [-List.map_append, -List.map_take, -addD_lst, cut, ad, a1, nd1, nd2, sm, hf]
theorem again1 {N : D} {cs0 cs1 : List Cp} {n : Nat} {s0 s1 : D} {K : List D} {rest goal : Cp} {first : Int} {due : D} {x4 x10 x11 x12 x13 x14 : Option D} (t : Tb18 cs1) (h0 : Stk (n + 28) s0) (h1 : Stk (n + 28) s1) (ha : AnsIs cs1 rest goal first due) (hf : frz due = due) :
    ∃ (s0' s1' : D) (y12 : Option D), bF (fE N s0 s1 (tbs cs0 cs1 false false) K x4 (some (.int 1)) (some (cD rest)) (some (cD goal)) (some (.int first)) (some due) x10 x11 x12 x13 x14) = .nx (fE N s0' s1' (tbs cs0 cs1 false false) K x4 (some (.int 1)) (some (cD rest)) (some (cD goal)) (some (.int first)) (some due) x10 x11 y12 x13 x14) ∧ Stk n s0' ∧ Stk n s1' := by
  have cl : cs1.length ≤ 28 := t.2.1
  have sb : ∀ c ∈ cs1, Sml c := fun c hc => by
    have := t.2.2 c hc
    exact ⟨by omega, by omega, by omega, by omega⟩
  obtain ⟨s', cs', q1, q2, pm⟩ := shuffled_is (cs := cs1) (by omega) (n := n) (h1.le (by omega))
  have pl := pm.length_eq
  have pos : 0 < cs1.length := by
    cases h : cs1 with
    | nil => exact absurd h t.1
    | cons c cs => simp
  have mem : ∀ c, c ∈ cs' ++ cs'.take 1 ↔ c ∈ cs1 := fun c => by
    rw [List.mem_append, pm.mem_iff]
    constructor
    · rintro (q | q)
      · exact q
      · exact pm.mem_iff.mp (List.mem_of_mem_take q)
    · exact .inl
  obtain ⟨ans, a1, a2, _⟩ := asked_is (cs := cs' ++ cs'.take 1) (rest := rest) (goal := goal) (first := first) (o := true) (by simp; omega)
  have sm : F_law_same 8 [frz ans, frz due] = .ok (.bl true) [none, none] := same_ok 8 _ _ (by rw [frz_frz, frz_frz]; exact ans_same mem a2 ha) (ans_ok (ans_frz ha) sb (by omega))
  rw [hf] at sm
  have nd1 := ans_noDk a2
  have nd2 := ans_noDk ha
  have ij : ixN 2 1 = some 1 := rfl
  have pl0 : (lIx (lN 1) (qL (lN 5))) (fE N s0 s1 (tbs cs0 cs1 false false) K x4 (some (.int 1)) (some (cD rest)) (some (cD goal)) (some (.int first)) (some due) x10 x11 x12 x13 x14) = some (s1, fun d => fE N s0 d (tbs cs0 cs1 false false) K x4 (some (.int 1)) (some (cD rest)) (some (cD goal)) (some (.int first)) (some due) x10 x11 x12 x13 x14) := by
    simp [lN, ij]
  have e1 : fAsg (gN 12) (eCallP 2 F_law_shuffled (lIx (lN 1) (qL (lN 5))) [(qL (lIx (lN 2) (qL (lN 5))))]) (fE N s0 s1 (tbs cs0 cs1 false false) K x4 (some (.int 1)) (some (cD rest)) (some (cD goal)) (some (.int first)) (some due) x10 x11 x12 x13 x14) = .nx (fE N s0 s' (tbs cs0 cs1 false false) K x4 (some (.int 1)) (some (cD rest)) (some (cD goal)) (some (.int first)) (some due) x10 x11 (some (.nd .lst true (cs'.map cD))) x13 x14) := by
    rw [fAsg_ap, eCallP_at (n := 2) (F := F_law_shuffled) (qs := [(qL (lIx (lN 2) (qL (lN 5))))]) (ds := [.nd .lst false (cs1.map cD)]) pl0 (by simp [lN, ij]) (stk_own h1) rfl]
    simp [q1]
  have cut : cutD (cs'.map cD) none (some 1) = (cs'.take 1).map cD := by
    have := cutD_upto (xs := cs'.map cD) (k := 1) (by rw [List.length_map]; omega)
    rw [List.map_take]
    exact this
  have ad : addD (.nd .lst false (cs'.map cD)) (.nd .lst false ((cs'.take 1).map cD)) = some (.nd .lst true ((cs' ++ cs'.take 1).map cD)) := by
    rw [addD_lst, if_pos (by simp [lim]; omega), List.map_append]
  refine ⟨s0, s', some (.nd .lst false (cs'.map cD)), ?_, (h0.le (by omega)), q2⟩
  unfold bF
  rw [fSeq_ap, e1, So.sq_nx]
  simp [-List.map_append, -List.map_take, -addD_lst, cut, ad, a1, nd1, nd2, sm, hf]
theorem kept_is {N : D} {cs0 cs1 : List Cp} (t0 : Tb18 cs0) (t1 : Tb18 cs1) {K : List D} {n : Nat} : ∀ (xs : List D), (∀ x ∈ xs, Ent cs0 cs1 x) → ∀ (s0 s1 : D) (x4 x5 x6 x7 x8 x9 x10 x11 x12 x13 x14 : Option D), Stk (n + 28 * xs.length) s0 → Stk (n + 28 * xs.length) s1 →
    ∃ (s0' s1' : D) (y5 y6 y7 y8 y9 y12 : Option D), forL (gT 5 (gsCons (gN 5) (gsCons (gN 6) (gsCons (gN 7) (gsCons (gN 8) (gsCons (gN 9) gsNil)))))) bF xs (fE N s0 s1 (tbs cs0 cs1 false false) K x4 x5 x6 x7 x8 x9 x10 x11 x12 x13 x14) = .nx (fE N s0' s1' (tbs cs0 cs1 false false) K x4 y5 y6 y7 y8 y9 x10 x11 y12 x13 x14) := by
  intro xs
  induction xs with
  | nil => intro _ s0 s1 x4 x5 x6 x7 x8 x9 x10 x11 x12 x13 x14 _ _; exact ⟨s0, s1, x5, x6, x7, x8, x9, x12, rfl⟩
  | cons x xs ih =>
    intro hx s0 s1 x4 x5 x6 x7 x8 x9 x10 x11 x12 x13 x14 k0 k1
    rw [List.length_cons] at k0 k1
    obtain ⟨j, rest, goal, first, due, hj, rfl, ans, hf⟩ := hx x List.mem_cons_self
    have g : gT 5 (gsCons (gN 5) (gsCons (gN 6) (gsCons (gN 7) (gsCons (gN 8) (gsCons (gN 9) gsNil))))) (.nd .tup false [.int (j : Int), cD rest, cD goal, .int first, due]) (fE N s0 s1 (tbs cs0 cs1 false false) K x4 x5 x6 x7 x8 x9 x10 x11 x12 x13 x14) = some (fE N s0 s1 (tbs cs0 cs1 false false) K x4 (some (.int j)) (some (cD rest)) (some (cD goal)) (some (.int first)) (some due) x10 x11 x12 x13 x14) := by
      simp [gT, hf]
    have step : ∃ (s0' s1' : D) (y12 : Option D), bF (fE N s0 s1 (tbs cs0 cs1 false false) K x4 (some (.int j)) (some (cD rest)) (some (cD goal)) (some (.int first)) (some due) x10 x11 x12 x13 x14) = .nx (fE N s0' s1' (tbs cs0 cs1 false false) K x4 (some (.int j)) (some (cD rest)) (some (cD goal)) (some (.int first)) (some due) x10 x11 y12 x13 x14) ∧ Stk (n + 28 * xs.length) s0' ∧ Stk (n + 28 * xs.length) s1' := by
      rcases (show j = 0 ∨ j = 1 by omega) with rfl | rfl
      · exact again0 t0 (k0.le (by omega)) (k1.le (by omega)) ans hf
      · exact again1 t1 (k0.le (by omega)) (k1.le (by omega)) ans hf
    obtain ⟨s0', s1', y12, e1, k0', k1'⟩ := step
    obtain ⟨s0'', s1'', y5, y6, y7, y8, y9, z12, e2⟩ := ih (fun y hy => hx y (List.mem_cons_of_mem _ hy)) s0' s1' x4 (some (.int j)) (some (cD rest)) (some (cD goal)) (some (.int first)) (some due) x10 x11 y12 x13 x14 k0' k1'
    exact ⟨s0'', s1'', y5, y6, y7, y8, y9, z12, by rw [forL_step g e1, e2]⟩
theorem ans_self {cs : List Cp} {c : Cp} {d : D} (hc : c ∈ cs) (h : AnsIs cs c c 1 d) : frz d = .nd .lst false [cD c] := by
  rcases h with ⟨a, _⟩ | ⟨_, b, _⟩ | ⟨_, _, ⟨_, n⟩ | ⟨o, t, r, rfl, l, n, _⟩⟩
  · exact absurd ⟨hc, hc⟩ a
  · exact absurd (.inr rfl) b
  · exact absurd (ks_zero.mpr rfl) (n 0)
  · have : t = 0 := by
      rcases Nat.eq_zero_or_pos t with z | z
      · exact z
      · exact absurd (ks_zero.mpr rfl) (n 0 z)
    subst this
    have : r = [] := List.length_eq_zero_iff.mp l.1
    subst this
    simp
/-- all walks of so many steps -/
def allW (cs : List Cp) : Int → Cp → Nat → List (List Cp)
  | _, _, 0 => [[]]
  | e, c, n + 1 => (cs.filter fun c' => oth c' e == oth c e).flatMap fun c' => (allW cs (1 - e) c' n).map (c' :: ·)
theorem wk_all {cs : List Cp} {g : Cp} : ∀ {r : List Cp} {c : Cp} {e : Int}, Wk cs g e (c :: r) → r ∈ allW cs e c r.length ∧ (c :: r).getLast? = some g
  | [], c, e, h => by
    have : c = g := h
    subst this
    exact ⟨by simp [allW], rfl⟩
  | c' :: r, c, e, h => by
    obtain ⟨h1, h2⟩ := wk_all h.2.2
    refine ⟨?_, by rw [List.getLast?_cons_cons]; exact h2⟩
    show c' :: r ∈ allW cs e c (r.length + 1)
    unfold allW
    exact List.mem_flatMap.mpr ⟨c', List.mem_filter.mpr ⟨h.1, by simpa using h.2.1⟩, List.mem_map.mpr ⟨r, h1, rfl⟩⟩
theorem line_all : ∀ t < 6, ∀ r ∈ allW (strZ 1 5) 1 (0, 0) t, ((0, 0) :: r).getLast? = some (2, 3) → r = (strZ 1 5).tail := by decide +kernel
theorem line_wk : Wk (strZ 1 5) (2, 3) 1 (strZ 1 5) := by
  have e : strZ 1 5 = [(0, 0), (0, 1), (1, 1), (1, 2), (2, 2), (2, 3)] := by decide +kernel
  rw [e]
  simp [Wk, oth]
theorem ans_line {d : D} (h : AnsIs (strZ 1 5) (0, 0) (2, 3) 1 d) : frz d = .nd .lst false ((strZ 1 5).map cD) := by
  have e : strZ 1 5 = [(0, 0), (0, 1), (1, 1), (1, 2), (2, 2), (2, 3)] := by decide +kernel
  have k5 : KS (strZ 1 5) 1 (0, 0) 5 (2, 3) := ⟨(strZ 1 5).tail, by rw [e]; rfl, by have := line_wk; rw [e] at this ⊢; exact this⟩
  rcases h with ⟨a, _⟩ | ⟨_, b, _⟩ | ⟨_, _, ⟨_, n⟩ | ⟨o, t, r, rfl, l, n, _⟩⟩
  · exact absurd ⟨by rw [e]; simp, by rw [e]; simp⟩ a
  · exact absurd (.inr rfl) b
  · exact absurd k5 (n 5)
  · have t5 : t < 6 := by
      rcases Nat.lt_or_ge t 6 with q | q
      · exact q
      · exact absurd k5 (n 5 (by omega))
    obtain ⟨w1, w2⟩ := wk_all l.2.1
    rw [l.1] at w1
    have := line_all t t5 r w1 w2
    rw [this, e]
    simp
abbrev Pt : So → Prop := fun r => ∃ e, r = .rt (.bl true) e
theorem keeps : Keeps F_law := fun ns hl _ => by
  obtain ⟨s0, es0, k0⟩ := source_ok (ns := ns) (k := 0) hl (by decide) (by decide)
  obtain ⟨s1, es1, k1⟩ := source_ok (ns := ns) (k := 1) hl (by decide) (by decide)
  have k0 : Stk (300 + 40) s0 := k0.le (by decide)
  have k1 : Stk (300 + 40) s1 := k1.le (by decide)
  obtain ⟨s0', cs0, e0, k0, t0⟩ := drawn_is k0
  obtain ⟨s1', cs1, e1, k1, t1⟩ := drawn_is k1
  unfold F_law
  refine rt_go ?_
  show Pt _
  unfold B_law
  refine seq_go (P := Pt) ⟨[some (.nd .wl false (ns.map D.int)), some (.nd .lst true [s0, s1]), none, none, none, none, none, none, none, none, none, none, none, none, none, none], none⟩ (by simp [es0, es1, lim]) ?_
  have lc : fAsg (gN 2) (eLcB 1 15 (eCall 1 F_law_e_drawn_table (aIo 15 aNil))) ⟨[some (.nd .wl false (ns.map D.int)), some (.nd .lst true [s0, s1]), none, none, none, none, none, none, none, none, none, none, none, none, none, none], none⟩ = .nx ⟨[some (.nd .wl false (ns.map D.int)), some (.nd .lst true [s0', s1']), some (tbs cs0 cs1 true true), none, none, none, none, none, none, none, none, none, none, none, none, none], none⟩ := by
    unfold eLcB
    simp [lcB, En.lend, e0, e1, lim]
  refine seq_go (P := Pt) _ lc ?_
  refine seq_go (P := Pt) (fL (.nd .wl false (ns.map D.int)) s0' s1' (tbs cs0 cs1 true true) [] none none none none none none none none none none none) (by simp [lim]) ?_
  obtain ⟨e2, f2, s0, s1, K, x4, x5, x6, x7, x8, x9, x10, x11, x12, x13, x14, rfl, q0, q1, hK, kl⟩ := loops_is (n := 200) t0 t1 (e := fL (.nd .wl false (ns.map D.int)) s0' s1' (tbs cs0 cs1 true true) [] none none none none none none none none none none none) ⟨s0', s1', [], none, none, none, none, none, none, none, none, none, none, none, rfl, k0.le (by decide), k1.le (by decide), fun x hx => (by cases hx), by simp⟩
  refine seq_go (P := Pt) _ f2 ?_
  have fK := ents_frz hK
  obtain ⟨s0, s1, y5, y6, y7, y8, y9, y12, f3⟩ := kept_is (N := .nd .wl false (ns.map D.int)) (K := K) (n := 0) t0 t1 K hK s0 s1 x4 x5 x6 x7 x8 x9 x10 x11 x12 x13 x14 (q0.le (by omega)) (q1.le (by omega))
  refine seq_go (P := Pt) (fE (.nd .wl false (ns.map D.int)) s0 s1 (tbs cs0 cs1 false false) K x4 y5 y6 y7 y8 y9 x10 x11 y12 x13 x14) (by
    simp [fK]
    exact f3) ?_
  refine seq_go (P := Pt) (fE (.nd .wl false (ns.map D.int)) s0 s1 (tbs cs0 cs1 false false) K x4 y5 y6 y7 y8 y9 (some (.nd .lst false (cs0.map cD))) x11 y12 x13 x14) (by
    have i0 : ixN 2 0 = some 0 := rfl
    simp [i0]) ?_
  have pos : 0 < cs0.length := by
    cases h : cs0 with
    | nil => exact absurd h t0.1
    | cons c cs => simp
  have in0 : cs0[0] ∈ cs0 := List.getElem_mem pos
  obtain ⟨an, a1, a2, _⟩ := asked_is (cs := cs0) (rest := cs0[0]) (goal := cs0[0]) (first := 1) (o := false) (by have := t0.2.1; omega)
  have sf := ans_self in0 a2
  have sml : Sml cs0[0] := by
    have := t0.2.2 _ in0
    exact ⟨by omega, by omega, by omega, by omega⟩
  have sm : F_law_same 8 [frz an, .nd .lst false [cD cs0[0]]] = .ok (.bl true) [none, none] := same_ok 8 _ _ (by rw [frz_frz, sf]; simp) (okS_ws (n := 5) (ws := [cs0[0]]) (fun c hc => by rw [List.mem_singleton.mp hc]; exact sml) (by simp))
  have rf : refD (.nd .lst false (cs0.map cD)) (.int 0) = some (cD cs0[0], .nd .lst false (cs0.map cD)) := by
    have at_ : (cs0.map cD)[0]? = some (cD cs0[0]) := by rw [List.getElem?_map, List.getElem?_eq_getElem pos]; rfl
    have i0 : ixN cs0.length 0 = some 0 := ixN_nat (j := 0) pos
    rw [refD_nd]
    simp only [cpos_lst, List.length_map, i0, Option.bind_some, at_, Option.map_some, frz_cD]
    rfl
  have nd1 := ans_noDk a2
  have ndc : noDk (cD cs0[0]) = true := by simp [cD]
  refine seq_go (P := Pt) (fE (.nd .wl false (ns.map D.int)) s0 s1 (tbs cs0 cs1 false false) K x4 y5 y6 y7 y8 y9 (some (.nd .lst false (cs0.map cD))) x11 y12 x13 x14) (by
    simp [rf, -refD_nd, a1, lim, nd1, ndc, sm]) ?_
  have sg := straight_is (first := 1) (n := 5) (by decide)
  have sg' : F_law_straight [.int 5, .int 1] = .ok (.nd .lst true ((strZ 1 5).map cD)) [none, none] := sg
  refine seq_go (P := Pt) (fE (.nd .wl false (ns.map D.int)) s0 s1 (tbs cs0 cs1 false false) K x4 y5 y6 y7 y8 y9 (some (.nd .lst false (cs0.map cD))) (some (.nd .lst true ((strZ 1 5).map cD))) y12 x13 x14) (by simp [sg']) ?_
  obtain ⟨an2, c1, c2, _⟩ := asked_is (cs := strZ 1 5) (rest := (0, 0)) (goal := (2, 3)) (first := 1) (o := false) (by rw [strZ_len]; omega)
  have sl := ans_line c2
  have sm2 : F_law_same 8 [frz an2, .nd .lst false ((strZ 1 5).map cD)] = .ok (.bl true) [none, none] := same_ok 8 _ _ (by rw [frz_frz, sl]; simp) (okS_ws (n := 5) (fun c hc => by
    obtain ⟨j, hj, rfl⟩ := List.mem_map.mp hc
    have := posZ_small (first := 1) j
    rw [List.mem_range] at hj
    exact ⟨by omega, by omega, by omega, by omega⟩) (by rw [strZ_len]; omega))
  have nd2 := ans_noDk c2
  have r0 : refD (.nd .lst false ((strZ 1 5).map cD)) (.int 0) = some (cD (0, 0), .nd .lst false ((strZ 1 5).map cD)) := by rfl
  have r5 : refD (.nd .lst false ((strZ 1 5).map cD)) (.int 5) = some (cD (2, 3), .nd .lst false ((strZ 1 5).map cD)) := by rfl
  simp [-refD_nd, r0, r5, c1, nd2, sm2]
  exact ⟨_, rfl⟩
end K18

set_option Elab.async false
set_option linter.all false
set_option maxRecDepth 100000
set_option maxHeartbeats 4000000
/-! printed by gen.py: the end -/
namespace K18
open PySem L2 Bx Lw PyProof.Rows
theorem all_mk {P : Program} {w : World} {K : PySem.W.Frag} {h : Heap} {mg : Str → Option Value} {fa : Addr} {f_law_straight f_law_same f_law_source f_law_pick f_law_renamed f_law_table f_law_e_drawn_table f_law_shuffled f_check_bear f_check_end f_moves_of f_moved f_steps_left f_walk_of f_law_e_asked f_law_e_question f_law_moves f_law_walk f_law_e_due f_law c_BadRow fi_BadRow : Addr}
  {od_law_straight an_law_straight : Option Addr} {sl_law_straight : Array (Option Value)} {oc_law_straight kV_law_straight dc_law_straight pm_law_straight cd_law_straight ct_law_straight : Value}
  {od_law_same an_law_same : Option Addr} {sl_law_same : Array (Option Value)} {oc_law_same kV_law_same dc_law_same pm_law_same cd_law_same ct_law_same : Value}
  {od_law_source an_law_source : Option Addr} {sl_law_source : Array (Option Value)} {oc_law_source kV_law_source dc_law_source pm_law_source cd_law_source ct_law_source : Value}
  {od_law_pick an_law_pick : Option Addr} {sl_law_pick : Array (Option Value)} {oc_law_pick kV_law_pick dc_law_pick pm_law_pick cd_law_pick ct_law_pick : Value}
  {od_law_renamed an_law_renamed : Option Addr} {sl_law_renamed : Array (Option Value)} {oc_law_renamed kV_law_renamed dc_law_renamed pm_law_renamed cd_law_renamed ct_law_renamed : Value}
  {od_law_table an_law_table : Option Addr} {sl_law_table : Array (Option Value)} {oc_law_table kV_law_table dc_law_table pm_law_table cd_law_table ct_law_table : Value}
  {od_law_e_drawn_table an_law_e_drawn_table : Option Addr} {sl_law_e_drawn_table : Array (Option Value)} {oc_law_e_drawn_table kV_law_e_drawn_table dc_law_e_drawn_table pm_law_e_drawn_table cd_law_e_drawn_table ct_law_e_drawn_table : Value}
  {od_law_shuffled an_law_shuffled : Option Addr} {sl_law_shuffled : Array (Option Value)} {oc_law_shuffled kV_law_shuffled dc_law_shuffled pm_law_shuffled cd_law_shuffled ct_law_shuffled : Value}
  {od_check_bear an_check_bear : Option Addr} {sl_check_bear : Array (Option Value)} {oc_check_bear kV_check_bear dc_check_bear pm_check_bear cd_check_bear ct_check_bear : Value}
  {od_check_end an_check_end : Option Addr} {sl_check_end : Array (Option Value)} {oc_check_end kV_check_end dc_check_end pm_check_end cd_check_end ct_check_end : Value}
  {od_moves_of an_moves_of : Option Addr} {sl_moves_of : Array (Option Value)} {oc_moves_of kV_moves_of dc_moves_of pm_moves_of cd_moves_of ct_moves_of : Value}
  {od_moved an_moved : Option Addr} {sl_moved : Array (Option Value)} {oc_moved kV_moved dc_moved pm_moved cd_moved ct_moved : Value}
  {od_steps_left an_steps_left : Option Addr} {sl_steps_left : Array (Option Value)} {oc_steps_left kV_steps_left dc_steps_left pm_steps_left cd_steps_left ct_steps_left : Value}
  {od_walk_of an_walk_of : Option Addr} {sl_walk_of : Array (Option Value)} {oc_walk_of kV_walk_of dc_walk_of pm_walk_of cd_walk_of ct_walk_of : Value}
  {od_law_e_asked an_law_e_asked : Option Addr} {sl_law_e_asked : Array (Option Value)} {oc_law_e_asked kV_law_e_asked dc_law_e_asked pm_law_e_asked cd_law_e_asked ct_law_e_asked : Value}
  {od_law_e_question an_law_e_question : Option Addr} {sl_law_e_question : Array (Option Value)} {oc_law_e_question kV_law_e_question dc_law_e_question pm_law_e_question cd_law_e_question ct_law_e_question : Value}
  {od_law_moves an_law_moves : Option Addr} {sl_law_moves : Array (Option Value)} {oc_law_moves kV_law_moves dc_law_moves pm_law_moves cd_law_moves ct_law_moves : Value}
  {od_law_walk an_law_walk : Option Addr} {sl_law_walk : Array (Option Value)} {oc_law_walk kV_law_walk dc_law_walk pm_law_walk cd_law_walk ct_law_walk : Value}
  {od_law_e_due an_law_e_due : Option Addr} {sl_law_e_due : Array (Option Value)} {oc_law_e_due kV_law_e_due dc_law_e_due pm_law_e_due cd_law_e_due ct_law_e_due : Value}
  {od_law an_law : Option Addr} {sl_law : Array (Option Value)} {oc_law kV_law dc_law pm_law cd_law ct_law : Value}
  {nm_BadRow q_BadRow : Str} {N_BadRow : Addr} {bs_BadRow bm_BadRow : List Value} {sn_BadRow : List Str} {sub_BadRow : List Value} {ab_BadRow : Bool} {col_BadRow : Option Bool} {dd_BadRow : Option Addr} {m0_BadRow m1_BadRow m2_BadRow m3_BadRow m5_BadRow : Option Value}
  {od_BadRow an_BadRow : Option Addr} {sl_BadRow : Array (Option Value)} {oc_BadRow kV_BadRow dc_BadRow pm_BadRow cd_BadRow ct_BadRow : Value}
  (X : K.In h) (G : h.Ns mainGlobals mg) (hfa : mg "law" = some (.ref fa))
  (a_law_straight : PySem.W.nsIn K mainGlobals "_law_straight" = some (some (.ref f_law_straight)))
  (l_law_straight : K.lookup f_law_straight = some ⟨oc_law_straight, od_law_straight, .func (PySem.W.fnOf "_law_straight" "_law_straight" (defArgs st_law_straight) (defBody st_law_straight) (defScope st_law_straight) .none kV_law_straight dc_law_straight pm_law_straight an_law_straight cd_law_straight ct_law_straight), sl_law_straight⟩)
  (c_law_straight : PySem.W.codeIn K cd_law_straight "_law_straight" = true)
  (k_law_straight : PySem.W.keepIn K (.ref f_law_straight) = true)
  (a_law_same : PySem.W.nsIn K mainGlobals "_law_same" = some (some (.ref f_law_same)))
  (l_law_same : K.lookup f_law_same = some ⟨oc_law_same, od_law_same, .func (PySem.W.fnOf "_law_same" "_law_same" (defArgs st_law_same) (defBody st_law_same) (defScope st_law_same) .none kV_law_same dc_law_same pm_law_same an_law_same cd_law_same ct_law_same), sl_law_same⟩)
  (c_law_same : PySem.W.codeIn K cd_law_same "_law_same" = true)
  (k_law_same : PySem.W.keepIn K (.ref f_law_same) = true)
  (a_law_source : PySem.W.nsIn K mainGlobals "_law_source" = some (some (.ref f_law_source)))
  (l_law_source : K.lookup f_law_source = some ⟨oc_law_source, od_law_source, .func (PySem.W.fnOf "_law_source" "_law_source" (defArgs st_law_source) (defBody st_law_source) (defScope st_law_source) .none kV_law_source dc_law_source pm_law_source an_law_source cd_law_source ct_law_source), sl_law_source⟩)
  (c_law_source : PySem.W.codeIn K cd_law_source "_law_source" = true)
  (k_law_source : PySem.W.keepIn K (.ref f_law_source) = true)
  (a_law_pick : PySem.W.nsIn K mainGlobals "_law_pick" = some (some (.ref f_law_pick)))
  (l_law_pick : K.lookup f_law_pick = some ⟨oc_law_pick, od_law_pick, .func (PySem.W.fnOf "_law_pick" "_law_pick" (defArgs st_law_pick) (defBody st_law_pick) (defScope st_law_pick) .none kV_law_pick dc_law_pick pm_law_pick an_law_pick cd_law_pick ct_law_pick), sl_law_pick⟩)
  (c_law_pick : PySem.W.codeIn K cd_law_pick "_law_pick" = true)
  (k_law_pick : PySem.W.keepIn K (.ref f_law_pick) = true)
  (a_law_renamed : PySem.W.nsIn K mainGlobals "_law_renamed" = some (some (.ref f_law_renamed)))
  (l_law_renamed : K.lookup f_law_renamed = some ⟨oc_law_renamed, od_law_renamed, .func (PySem.W.fnOf "_law_renamed" "_law_renamed" (defArgs st_law_renamed) (defBody st_law_renamed) (defScope st_law_renamed) .none kV_law_renamed dc_law_renamed pm_law_renamed an_law_renamed cd_law_renamed ct_law_renamed), sl_law_renamed⟩)
  (c_law_renamed : PySem.W.codeIn K cd_law_renamed "_law_renamed" = true)
  (k_law_renamed : PySem.W.keepIn K (.ref f_law_renamed) = true)
  (a_law_table : PySem.W.nsIn K mainGlobals "_law_table" = some (some (.ref f_law_table)))
  (l_law_table : K.lookup f_law_table = some ⟨oc_law_table, od_law_table, .func (PySem.W.fnOf "_law_table" "_law_table" (defArgs st_law_table) (defBody st_law_table) (defScope st_law_table) .none kV_law_table dc_law_table pm_law_table an_law_table cd_law_table ct_law_table), sl_law_table⟩)
  (c_law_table : PySem.W.codeIn K cd_law_table "_law_table" = true)
  (k_law_table : PySem.W.keepIn K (.ref f_law_table) = true)
  (a_law_e_drawn_table : PySem.W.nsIn K mainGlobals "_law_e_drawn_table" = some (some (.ref f_law_e_drawn_table)))
  (l_law_e_drawn_table : K.lookup f_law_e_drawn_table = some ⟨oc_law_e_drawn_table, od_law_e_drawn_table, .func (PySem.W.fnOf "_law_e_drawn_table" "_law_e_drawn_table" (defArgs st_law_e_drawn_table) (defBody st_law_e_drawn_table) (defScope st_law_e_drawn_table) .none kV_law_e_drawn_table dc_law_e_drawn_table pm_law_e_drawn_table an_law_e_drawn_table cd_law_e_drawn_table ct_law_e_drawn_table), sl_law_e_drawn_table⟩)
  (c_law_e_drawn_table : PySem.W.codeIn K cd_law_e_drawn_table "_law_e_drawn_table" = true)
  (k_law_e_drawn_table : PySem.W.keepIn K (.ref f_law_e_drawn_table) = true)
  (a_law_shuffled : PySem.W.nsIn K mainGlobals "_law_shuffled" = some (some (.ref f_law_shuffled)))
  (l_law_shuffled : K.lookup f_law_shuffled = some ⟨oc_law_shuffled, od_law_shuffled, .func (PySem.W.fnOf "_law_shuffled" "_law_shuffled" (defArgs st_law_shuffled) (defBody st_law_shuffled) (defScope st_law_shuffled) .none kV_law_shuffled dc_law_shuffled pm_law_shuffled an_law_shuffled cd_law_shuffled ct_law_shuffled), sl_law_shuffled⟩)
  (c_law_shuffled : PySem.W.codeIn K cd_law_shuffled "_law_shuffled" = true)
  (k_law_shuffled : PySem.W.keepIn K (.ref f_law_shuffled) = true)
  (a_check_bear : PySem.W.nsIn K mainGlobals "check_bear" = some (some (.ref f_check_bear)))
  (l_check_bear : K.lookup f_check_bear = some ⟨oc_check_bear, od_check_bear, .func (PySem.W.fnOf "check_bear" "check_bear" (defArgs st_check_bear) (defBody st_check_bear) (defScope st_check_bear) .none kV_check_bear dc_check_bear pm_check_bear an_check_bear cd_check_bear ct_check_bear), sl_check_bear⟩)
  (c_check_bear : PySem.W.codeIn K cd_check_bear "check_bear" = true)
  (k_check_bear : PySem.W.keepIn K (.ref f_check_bear) = true)
  (a_check_end : PySem.W.nsIn K mainGlobals "check_end" = some (some (.ref f_check_end)))
  (l_check_end : K.lookup f_check_end = some ⟨oc_check_end, od_check_end, .func (PySem.W.fnOf "check_end" "check_end" (defArgs st_check_end) (defBody st_check_end) (defScope st_check_end) .none kV_check_end dc_check_end pm_check_end an_check_end cd_check_end ct_check_end), sl_check_end⟩)
  (c_check_end : PySem.W.codeIn K cd_check_end "check_end" = true)
  (k_check_end : PySem.W.keepIn K (.ref f_check_end) = true)
  (a_moves_of : PySem.W.nsIn K mainGlobals "moves_of" = some (some (.ref f_moves_of)))
  (l_moves_of : K.lookup f_moves_of = some ⟨oc_moves_of, od_moves_of, .func (PySem.W.fnOf "moves_of" "moves_of" (defArgs st_moves_of) (defBody st_moves_of) (defScope st_moves_of) .none kV_moves_of dc_moves_of pm_moves_of an_moves_of cd_moves_of ct_moves_of), sl_moves_of⟩)
  (c_moves_of : PySem.W.codeIn K cd_moves_of "moves_of" = true)
  (k_moves_of : PySem.W.keepIn K (.ref f_moves_of) = true)
  (a_moved : PySem.W.nsIn K mainGlobals "moved" = some (some (.ref f_moved)))
  (l_moved : K.lookup f_moved = some ⟨oc_moved, od_moved, .func (PySem.W.fnOf "moved" "moved" (defArgs st_moved) (defBody st_moved) (defScope st_moved) .none kV_moved dc_moved pm_moved an_moved cd_moved ct_moved), sl_moved⟩)
  (c_moved : PySem.W.codeIn K cd_moved "moved" = true)
  (k_moved : PySem.W.keepIn K (.ref f_moved) = true)
  (a_steps_left : PySem.W.nsIn K mainGlobals "steps_left" = some (some (.ref f_steps_left)))
  (l_steps_left : K.lookup f_steps_left = some ⟨oc_steps_left, od_steps_left, .func (PySem.W.fnOf "steps_left" "steps_left" (defArgs st_steps_left) (defBody st_steps_left) (defScope st_steps_left) .none kV_steps_left dc_steps_left pm_steps_left an_steps_left cd_steps_left ct_steps_left), sl_steps_left⟩)
  (c_steps_left : PySem.W.codeIn K cd_steps_left "steps_left" = true)
  (k_steps_left : PySem.W.keepIn K (.ref f_steps_left) = true)
  (a_walk_of : PySem.W.nsIn K mainGlobals "walk_of" = some (some (.ref f_walk_of)))
  (l_walk_of : K.lookup f_walk_of = some ⟨oc_walk_of, od_walk_of, .func (PySem.W.fnOf "walk_of" "walk_of" (defArgs st_walk_of) (defBody st_walk_of) (defScope st_walk_of) .none kV_walk_of dc_walk_of pm_walk_of an_walk_of cd_walk_of ct_walk_of), sl_walk_of⟩)
  (c_walk_of : PySem.W.codeIn K cd_walk_of "walk_of" = true)
  (k_walk_of : PySem.W.keepIn K (.ref f_walk_of) = true)
  (a_law_e_asked : PySem.W.nsIn K mainGlobals "_law_e_asked" = some (some (.ref f_law_e_asked)))
  (l_law_e_asked : K.lookup f_law_e_asked = some ⟨oc_law_e_asked, od_law_e_asked, .func (PySem.W.fnOf "_law_e_asked" "_law_e_asked" (defArgs st_law_e_asked) (defBody st_law_e_asked) (defScope st_law_e_asked) .none kV_law_e_asked dc_law_e_asked pm_law_e_asked an_law_e_asked cd_law_e_asked ct_law_e_asked), sl_law_e_asked⟩)
  (c_law_e_asked : PySem.W.codeIn K cd_law_e_asked "_law_e_asked" = true)
  (k_law_e_asked : PySem.W.keepIn K (.ref f_law_e_asked) = true)
  (a_law_e_question : PySem.W.nsIn K mainGlobals "_law_e_question" = some (some (.ref f_law_e_question)))
  (l_law_e_question : K.lookup f_law_e_question = some ⟨oc_law_e_question, od_law_e_question, .func (PySem.W.fnOf "_law_e_question" "_law_e_question" (defArgs st_law_e_question) (defBody st_law_e_question) (defScope st_law_e_question) .none kV_law_e_question dc_law_e_question pm_law_e_question an_law_e_question cd_law_e_question ct_law_e_question), sl_law_e_question⟩)
  (c_law_e_question : PySem.W.codeIn K cd_law_e_question "_law_e_question" = true)
  (k_law_e_question : PySem.W.keepIn K (.ref f_law_e_question) = true)
  (a_law_moves : PySem.W.nsIn K mainGlobals "_law_moves" = some (some (.ref f_law_moves)))
  (l_law_moves : K.lookup f_law_moves = some ⟨oc_law_moves, od_law_moves, .func (PySem.W.fnOf "_law_moves" "_law_moves" (defArgs st_law_moves) (defBody st_law_moves) (defScope st_law_moves) .none kV_law_moves dc_law_moves pm_law_moves an_law_moves cd_law_moves ct_law_moves), sl_law_moves⟩)
  (c_law_moves : PySem.W.codeIn K cd_law_moves "_law_moves" = true)
  (k_law_moves : PySem.W.keepIn K (.ref f_law_moves) = true)
  (a_law_walk : PySem.W.nsIn K mainGlobals "_law_walk" = some (some (.ref f_law_walk)))
  (l_law_walk : K.lookup f_law_walk = some ⟨oc_law_walk, od_law_walk, .func (PySem.W.fnOf "_law_walk" "_law_walk" (defArgs st_law_walk) (defBody st_law_walk) (defScope st_law_walk) .none kV_law_walk dc_law_walk pm_law_walk an_law_walk cd_law_walk ct_law_walk), sl_law_walk⟩)
  (c_law_walk : PySem.W.codeIn K cd_law_walk "_law_walk" = true)
  (k_law_walk : PySem.W.keepIn K (.ref f_law_walk) = true)
  (a_law_e_due : PySem.W.nsIn K mainGlobals "_law_e_due" = some (some (.ref f_law_e_due)))
  (l_law_e_due : K.lookup f_law_e_due = some ⟨oc_law_e_due, od_law_e_due, .func (PySem.W.fnOf "_law_e_due" "_law_e_due" (defArgs st_law_e_due) (defBody st_law_e_due) (defScope st_law_e_due) .none kV_law_e_due dc_law_e_due pm_law_e_due an_law_e_due cd_law_e_due ct_law_e_due), sl_law_e_due⟩)
  (c_law_e_due : PySem.W.codeIn K cd_law_e_due "_law_e_due" = true)
  (k_law_e_due : PySem.W.keepIn K (.ref f_law_e_due) = true)
  (a_law : PySem.W.nsIn K mainGlobals "law" = some (some (.ref f_law)))
  (l_law : K.lookup f_law = some ⟨oc_law, od_law, .func (PySem.W.fnOf "law" "law" (defArgs st_law) (defBody st_law) (defScope st_law) .none kV_law dc_law pm_law an_law cd_law ct_law), sl_law⟩)
  (c_law : PySem.W.codeIn K cd_law "law" = true)
  (k_law : PySem.W.keepIn K (.ref f_law) = true)
  (z_abs : PySem.W.nsIn K mainGlobals "abs" = some none)
  (z_all : PySem.W.nsIn K mainGlobals "all" = some none)
  (z_dict : PySem.W.nsIn K mainGlobals "dict" = some none)
  (z_int : PySem.W.nsIn K mainGlobals "int" = some none)
  (z_isinstance : PySem.W.nsIn K mainGlobals "isinstance" = some none)
  (z_len : PySem.W.nsIn K mainGlobals "len" = some none)
  (z_list : PySem.W.nsIn K mainGlobals "list" = some none)
  (z_range : PySem.W.nsIn K mainGlobals "range" = some none)
  (z_repr : PySem.W.nsIn K mainGlobals "repr" = some none)
  (z_set : PySem.W.nsIn K mainGlobals "set" = some none)
  (z_sorted : PySem.W.nsIn K mainGlobals "sorted" = some none)
  (z_str : PySem.W.nsIn K mainGlobals "str" = some none)
  (z_sum : PySem.W.nsIn K mainGlobals "sum" = some none)
  (z_tuple : PySem.W.nsIn K mainGlobals "tuple" = some none)
  (aC_BadRow : PySem.W.nsIn K mainGlobals "BadRow" = some (some (.ref c_BadRow)))
  (xL_BadRow : K.lookup c_BadRow = some (excClassObj nm_BadRow q_BadRow c_BadRow N_BadRow bs_BadRow bm_BadRow true sn_BadRow sub_BadRow ab_BadRow col_BadRow dd_BadRow m0_BadRow m1_BadRow m2_BadRow m3_BadRow m5_BadRow "ValueError.__new__"))
  (rv_BadRow : PySem.HandSPX.refsVE bm_BadRow = true)
  (sa_BadRow : PySem.W.findIn K (.ref c_BadRow) "__setattr__" = some (some (.builtin "object.__setattr__")))
  (ga_BadRow : PySem.W.findIn K (.ref c_BadRow) "__getattribute__" = some (some (.builtin "BaseException.__getattribute__")))
  (gg_BadRow : PySem.W.findIn K (.ref c_BadRow) "__getattr__" = some none)
  (eC_BadRow : PySem.W.subIn K (.ref c_BadRow) (.type "BaseException") = some true)
  (tC_BadRow : PySem.W.typeIn K (.ref c_BadRow) = some (.type "type"))
  (kC_BadRow : PySem.W.keepIn K (.ref c_BadRow) = true)
  (hC_BadRow : PySem.W.hasDictIn K c_BadRow = true)
  (iK_BadRow : PySem.W.isClsIn K c_BadRow = true)
  (sC_BadRow : PySem.W.subIn K (.ref c_BadRow) (.ref c_BadRow) = some true)
  (a1_BadRow : PySem.W.findIn K (.ref c_BadRow) "__init__" = some (some (.ref fi_BadRow)))
  (t1_BadRow : PySem.W.typeIn K (.ref fi_BadRow) = some (.type "function"))
  (l1_BadRow : K.lookup fi_BadRow = some ⟨oc_BadRow, od_BadRow, .func (PySem.W.fnOf "__init__" "BadRow.__init__" (defArgs sti_BadRow) (defBody sti_BadRow) (defScope sti_BadRow) .none kV_BadRow dc_BadRow pm_BadRow an_BadRow cd_BadRow ct_BadRow), sl_BadRow⟩)
  (c1_BadRow : PySem.W.codeIn K cd_BadRow "BadRow.__init__" = true)
  (k1_BadRow : PySem.W.keepIn K (.ref fi_BadRow) = true)
  (no_BadRow_what : PySem.W.findIn K (.ref c_BadRow) "what" = some none) :
  ∃ fd : FuncData, (∀ (s : Shared) (v : Value), BindsTo s fd ⟨[v], []⟩ [("script", v)]) ∧ ∀ base : Heap, K.In base → base.Ns mainGlobals mg → FnOk P w K mg base (L2.CX P w) 10 fa fd ["script"] (spLaw K) := by
  have e := hfa.symm.trans (PySem.W.mg_of X G a_law)
  cases e
  have F_law_straight := fun_mk (st := st_law_straight) l_law_straight c_law_straight k_law_straight
  have B_law_straight := F_law_straight.binds (ps := ["steps", "first"]) fun _ _ _ _ _ _ us hl => match us, hl with | [_, _], _ => rfl
  have F_law_same := fun_mk (st := st_law_same) l_law_same c_law_same k_law_same
  have B_law_same := F_law_same.binds (ps := ["answer", "due"]) fun _ _ _ _ _ _ us hl => match us, hl with | [_, _], _ => rfl
  have F_law_source := fun_mk (st := st_law_source) l_law_source c_law_source k_law_source
  have B_law_source := F_law_source.binds (ps := ["script", "at"]) fun _ _ _ _ _ _ us hl => match us, hl with | [_, _], _ => rfl
  have F_law_pick := fun_mk (st := st_law_pick) l_law_pick c_law_pick k_law_pick
  have B_law_pick := F_law_pick.binds (ps := ["source", "many"]) fun _ _ _ _ _ _ us hl => match us, hl with | [_, _], _ => rfl
  have F_law_renamed := fun_mk (st := st_law_renamed) l_law_renamed c_law_renamed k_law_renamed
  have B_law_renamed := F_law_renamed.binds (ps := ["stock", "couples"]) fun _ _ _ _ _ _ us hl => match us, hl with | [_, _], _ => rfl
  have F_law_table := fun_mk (st := st_law_table) l_law_table c_law_table k_law_table
  have B_law_table := F_law_table.binds (ps := ["stock", "rows", "columns", "share"]) fun _ _ _ _ _ _ us hl => match us, hl with | [_, _, _, _], _ => rfl
  have F_law_e_drawn_table := fun_mk (st := st_law_e_drawn_table) l_law_e_drawn_table c_law_e_drawn_table k_law_e_drawn_table
  have B_law_e_drawn_table := F_law_e_drawn_table.binds (ps := ["stock"]) fun _ _ _ _ _ _ us hl => match us, hl with | [_], _ => rfl
  have F_law_shuffled := fun_mk (st := st_law_shuffled) l_law_shuffled c_law_shuffled k_law_shuffled
  have B_law_shuffled := F_law_shuffled.binds (ps := ["source", "things"]) fun _ _ _ _ _ _ us hl => match us, hl with | [_, _], _ => rfl
  have F_check_bear := fun_mk (st := st_check_bear) l_check_bear c_check_bear k_check_bear
  have B_check_bear := F_check_bear.binds (ps := ["couples", "told"]) fun _ _ _ _ _ _ us hl => match us, hl with | [_, _], _ => rfl
  have F_check_end := fun_mk (st := st_check_end) l_check_end c_check_end k_check_end
  have B_check_end := F_check_end.binds (ps := ["first"]) fun _ _ _ _ _ _ us hl => match us, hl with | [_], _ => rfl
  have F_moves_of := fun_mk (st := st_moves_of) l_moves_of c_moves_of k_moves_of
  have B_moves_of := F_moves_of.binds (ps := ["couples"]) fun _ _ _ _ _ _ us hl => match us, hl with | [_], _ => rfl
  have F_moved := fun_mk (st := st_moved) l_moved c_moved k_moved
  have B_moved := F_moved.binds (ps := ["moves", "couple", "end"]) fun _ _ _ _ _ _ us hl => match us, hl with | [_, _, _], _ => rfl
  have F_steps_left := fun_mk (st := st_steps_left) l_steps_left c_steps_left k_steps_left
  have B_steps_left := F_steps_left.binds (ps := ["moves", "goal"]) fun _ _ _ _ _ _ us hl => match us, hl with | [_, _], _ => rfl
  have F_walk_of := fun_mk (st := st_walk_of) l_walk_of c_walk_of k_walk_of
  have B_walk_of := F_walk_of.binds (ps := ["couples", "rest", "goal", "first"]) fun _ _ _ _ _ _ us hl => match us, hl with | [_, _, _, _], _ => rfl
  have F_law_e_asked := fun_mk (st := st_law_e_asked) l_law_e_asked c_law_e_asked k_law_e_asked
  have B_law_e_asked := F_law_e_asked.binds (ps := ["couples", "rest", "goal", "first"]) fun _ _ _ _ _ _ us hl => match us, hl with | [_, _, _, _], _ => rfl
  have F_law_e_question := fun_mk (st := st_law_e_question) l_law_e_question c_law_e_question k_law_e_question
  have B_law_e_question := F_law_e_question.binds (ps := ["stock", "couples"]) fun _ _ _ _ _ _ us hl => match us, hl with | [_, _], _ => rfl
  have F_law_moves := fun_mk (st := st_law_moves) l_law_moves c_law_moves k_law_moves
  have B_law_moves := F_law_moves.binds (ps := ["couples", "couple", "end"]) fun _ _ _ _ _ _ us hl => match us, hl with | [_, _, _], _ => rfl
  have F_law_walk := fun_mk (st := st_law_walk) l_law_walk c_law_walk k_law_walk
  have B_law_walk := F_law_walk.binds (ps := ["couples", "rest", "goal", "first"]) fun _ _ _ _ _ _ us hl => match us, hl with | [_, _, _, _], _ => rfl
  have F_law_e_due := fun_mk (st := st_law_e_due) l_law_e_due c_law_e_due k_law_e_due
  have B_law_e_due := F_law_e_due.binds (ps := ["couples", "rest", "goal", "first"]) fun _ _ _ _ _ _ us hl => match us, hl with | [_, _, _, _], _ => rfl
  have F_law := fun_mk (st := st_law) l_law c_law k_law
  have B_law := F_law.binds (ps := ["script"]) fun _ _ _ _ _ _ us hl => match us, hl with | [_], _ => rfl
  have F_iBadRow := fun_mk (st := sti_BadRow) l1_BadRow c1_BadRow k1_BadRow
  have B_iBadRow := F_iBadRow.binds (ps := ["self", "what"]) fun _ _ _ _ _ _ us hl => match us, hl with | [_, _], _ => rfl
  have T : Tx P w K mg h ⟨f_law_straight, (PySem.W.fnOf "_law_straight" "_law_straight" (defArgs st_law_straight) (defBody st_law_straight) (defScope st_law_straight) .none kV_law_straight dc_law_straight pm_law_straight an_law_straight cd_law_straight ct_law_straight), f_law_same, (PySem.W.fnOf "_law_same" "_law_same" (defArgs st_law_same) (defBody st_law_same) (defScope st_law_same) .none kV_law_same dc_law_same pm_law_same an_law_same cd_law_same ct_law_same), f_law_source, (PySem.W.fnOf "_law_source" "_law_source" (defArgs st_law_source) (defBody st_law_source) (defScope st_law_source) .none kV_law_source dc_law_source pm_law_source an_law_source cd_law_source ct_law_source), f_law_pick, (PySem.W.fnOf "_law_pick" "_law_pick" (defArgs st_law_pick) (defBody st_law_pick) (defScope st_law_pick) .none kV_law_pick dc_law_pick pm_law_pick an_law_pick cd_law_pick ct_law_pick), f_law_renamed, (PySem.W.fnOf "_law_renamed" "_law_renamed" (defArgs st_law_renamed) (defBody st_law_renamed) (defScope st_law_renamed) .none kV_law_renamed dc_law_renamed pm_law_renamed an_law_renamed cd_law_renamed ct_law_renamed), f_law_table, (PySem.W.fnOf "_law_table" "_law_table" (defArgs st_law_table) (defBody st_law_table) (defScope st_law_table) .none kV_law_table dc_law_table pm_law_table an_law_table cd_law_table ct_law_table), f_law_e_drawn_table, (PySem.W.fnOf "_law_e_drawn_table" "_law_e_drawn_table" (defArgs st_law_e_drawn_table) (defBody st_law_e_drawn_table) (defScope st_law_e_drawn_table) .none kV_law_e_drawn_table dc_law_e_drawn_table pm_law_e_drawn_table an_law_e_drawn_table cd_law_e_drawn_table ct_law_e_drawn_table), f_law_shuffled, (PySem.W.fnOf "_law_shuffled" "_law_shuffled" (defArgs st_law_shuffled) (defBody st_law_shuffled) (defScope st_law_shuffled) .none kV_law_shuffled dc_law_shuffled pm_law_shuffled an_law_shuffled cd_law_shuffled ct_law_shuffled), f_check_bear, (PySem.W.fnOf "check_bear" "check_bear" (defArgs st_check_bear) (defBody st_check_bear) (defScope st_check_bear) .none kV_check_bear dc_check_bear pm_check_bear an_check_bear cd_check_bear ct_check_bear), f_check_end, (PySem.W.fnOf "check_end" "check_end" (defArgs st_check_end) (defBody st_check_end) (defScope st_check_end) .none kV_check_end dc_check_end pm_check_end an_check_end cd_check_end ct_check_end), f_moves_of, (PySem.W.fnOf "moves_of" "moves_of" (defArgs st_moves_of) (defBody st_moves_of) (defScope st_moves_of) .none kV_moves_of dc_moves_of pm_moves_of an_moves_of cd_moves_of ct_moves_of), f_moved, (PySem.W.fnOf "moved" "moved" (defArgs st_moved) (defBody st_moved) (defScope st_moved) .none kV_moved dc_moved pm_moved an_moved cd_moved ct_moved), f_steps_left, (PySem.W.fnOf "steps_left" "steps_left" (defArgs st_steps_left) (defBody st_steps_left) (defScope st_steps_left) .none kV_steps_left dc_steps_left pm_steps_left an_steps_left cd_steps_left ct_steps_left), f_walk_of, (PySem.W.fnOf "walk_of" "walk_of" (defArgs st_walk_of) (defBody st_walk_of) (defScope st_walk_of) .none kV_walk_of dc_walk_of pm_walk_of an_walk_of cd_walk_of ct_walk_of), f_law_e_asked, (PySem.W.fnOf "_law_e_asked" "_law_e_asked" (defArgs st_law_e_asked) (defBody st_law_e_asked) (defScope st_law_e_asked) .none kV_law_e_asked dc_law_e_asked pm_law_e_asked an_law_e_asked cd_law_e_asked ct_law_e_asked), f_law_e_question, (PySem.W.fnOf "_law_e_question" "_law_e_question" (defArgs st_law_e_question) (defBody st_law_e_question) (defScope st_law_e_question) .none kV_law_e_question dc_law_e_question pm_law_e_question an_law_e_question cd_law_e_question ct_law_e_question), f_law_moves, (PySem.W.fnOf "_law_moves" "_law_moves" (defArgs st_law_moves) (defBody st_law_moves) (defScope st_law_moves) .none kV_law_moves dc_law_moves pm_law_moves an_law_moves cd_law_moves ct_law_moves), f_law_walk, (PySem.W.fnOf "_law_walk" "_law_walk" (defArgs st_law_walk) (defBody st_law_walk) (defScope st_law_walk) .none kV_law_walk dc_law_walk pm_law_walk an_law_walk cd_law_walk ct_law_walk), f_law_e_due, (PySem.W.fnOf "_law_e_due" "_law_e_due" (defArgs st_law_e_due) (defBody st_law_e_due) (defScope st_law_e_due) .none kV_law_e_due dc_law_e_due pm_law_e_due an_law_e_due cd_law_e_due ct_law_e_due), fa, (PySem.W.fnOf "law" "law" (defArgs st_law) (defBody st_law) (defScope st_law) .none kV_law dc_law pm_law an_law cd_law ct_law), c_BadRow, fi_BadRow, (PySem.W.fnOf "__init__" "BadRow.__init__" (defArgs sti_BadRow) (defBody sti_BadRow) (defScope sti_BadRow) .none kV_BadRow dc_BadRow pm_BadRow an_BadRow cd_BadRow ct_BadRow)⟩ :=
    { F_law_straight := F_law_straight,
      b_law_straight := B_law_straight,
      m_law_straight := PySem.W.mg_of X G a_law_straight,
      F_law_same := F_law_same,
      b_law_same := B_law_same,
      m_law_same := PySem.W.mg_of X G a_law_same,
      F_law_source := F_law_source,
      b_law_source := B_law_source,
      m_law_source := PySem.W.mg_of X G a_law_source,
      F_law_pick := F_law_pick,
      b_law_pick := B_law_pick,
      m_law_pick := PySem.W.mg_of X G a_law_pick,
      F_law_renamed := F_law_renamed,
      b_law_renamed := B_law_renamed,
      m_law_renamed := PySem.W.mg_of X G a_law_renamed,
      F_law_table := F_law_table,
      b_law_table := B_law_table,
      m_law_table := PySem.W.mg_of X G a_law_table,
      F_law_e_drawn_table := F_law_e_drawn_table,
      b_law_e_drawn_table := B_law_e_drawn_table,
      m_law_e_drawn_table := PySem.W.mg_of X G a_law_e_drawn_table,
      F_law_shuffled := F_law_shuffled,
      b_law_shuffled := B_law_shuffled,
      m_law_shuffled := PySem.W.mg_of X G a_law_shuffled,
      F_check_bear := F_check_bear,
      b_check_bear := B_check_bear,
      m_check_bear := PySem.W.mg_of X G a_check_bear,
      F_check_end := F_check_end,
      b_check_end := B_check_end,
      m_check_end := PySem.W.mg_of X G a_check_end,
      F_moves_of := F_moves_of,
      b_moves_of := B_moves_of,
      m_moves_of := PySem.W.mg_of X G a_moves_of,
      F_moved := F_moved,
      b_moved := B_moved,
      m_moved := PySem.W.mg_of X G a_moved,
      F_steps_left := F_steps_left,
      b_steps_left := B_steps_left,
      m_steps_left := PySem.W.mg_of X G a_steps_left,
      F_walk_of := F_walk_of,
      b_walk_of := B_walk_of,
      m_walk_of := PySem.W.mg_of X G a_walk_of,
      F_law_e_asked := F_law_e_asked,
      b_law_e_asked := B_law_e_asked,
      m_law_e_asked := PySem.W.mg_of X G a_law_e_asked,
      F_law_e_question := F_law_e_question,
      b_law_e_question := B_law_e_question,
      m_law_e_question := PySem.W.mg_of X G a_law_e_question,
      F_law_moves := F_law_moves,
      b_law_moves := B_law_moves,
      m_law_moves := PySem.W.mg_of X G a_law_moves,
      F_law_walk := F_law_walk,
      b_law_walk := B_law_walk,
      m_law_walk := PySem.W.mg_of X G a_law_walk,
      F_law_e_due := F_law_e_due,
      b_law_e_due := B_law_e_due,
      m_law_e_due := PySem.W.mg_of X G a_law_e_due,
      F_law := F_law,
      b_law := B_law,
      m_law := PySem.W.mg_of X G a_law,
      z_abs := PySem.W.mg_none_of X G z_abs,
      z_all := PySem.W.mg_none_of X G z_all,
      z_dict := PySem.W.mg_none_of X G z_dict,
      z_int := PySem.W.mg_none_of X G z_int,
      z_isinstance := PySem.W.mg_none_of X G z_isinstance,
      z_len := PySem.W.mg_none_of X G z_len,
      z_list := PySem.W.mg_none_of X G z_list,
      z_range := PySem.W.mg_none_of X G z_range,
      z_repr := PySem.W.mg_none_of X G z_repr,
      z_set := PySem.W.mg_none_of X G z_set,
      z_sorted := PySem.W.mg_none_of X G z_sorted,
      z_str := PySem.W.mg_none_of X G z_str,
      z_sum := PySem.W.mg_none_of X G z_sum,
      z_tuple := PySem.W.mg_none_of X G z_tuple,
      g_BadRow := PySem.W.mg_of X G aC_BadRow,
      o_BadRow := ⟨⟨_, _, _, _, _, _, _, _, _, _, _, _, _, _, _, xL_BadRow, rv_BadRow⟩, sa_BadRow, eC_BadRow, tC_BadRow, kC_BadRow⟩,
      x_BadRow := ⟨ga_BadRow, gg_BadRow, eC_BadRow, hC_BadRow⟩,
      e_BadRow := exm_of eC_BadRow iK_BadRow tC_BadRow sC_BadRow,
      iC_BadRow := a1_BadRow,
      tI_BadRow := t1_BadRow,
      Fi_BadRow := F_iBadRow,
      bi_BadRow := B_iBadRow,
      n_BadRow_what := no_BadRow_what }
  exact ⟨_, fun s v => .of_eq rfl, fun base _ _ => law_fn keeps (ok_law (base := base) ⟨T.F_law_straight, T.b_law_straight, T.m_law_straight, T.F_law_same, T.b_law_same, T.m_law_same, T.F_law_source, T.b_law_source, T.m_law_source, T.F_law_pick, T.b_law_pick, T.m_law_pick, T.F_law_renamed, T.b_law_renamed, T.m_law_renamed, T.F_law_table, T.b_law_table, T.m_law_table, T.F_law_e_drawn_table, T.b_law_e_drawn_table, T.m_law_e_drawn_table, T.F_law_shuffled, T.b_law_shuffled, T.m_law_shuffled, T.F_check_bear, T.b_check_bear, T.m_check_bear, T.F_check_end, T.b_check_end, T.m_check_end, T.F_moves_of, T.b_moves_of, T.m_moves_of, T.F_moved, T.b_moved, T.m_moved, T.F_steps_left, T.b_steps_left, T.m_steps_left, T.F_walk_of, T.b_walk_of, T.m_walk_of, T.F_law_e_asked, T.b_law_e_asked, T.m_law_e_asked, T.F_law_e_question, T.b_law_e_question, T.m_law_e_question, T.F_law_moves, T.b_law_moves, T.m_law_moves, T.F_law_walk, T.b_law_walk, T.m_law_walk, T.F_law_e_due, T.b_law_e_due, T.m_law_e_due, T.F_law, T.b_law, T.m_law, T.z_abs, T.z_all, T.z_dict, T.z_int, T.z_isinstance, T.z_len, T.z_list, T.z_range, T.z_repr, T.z_set, T.z_sorted, T.z_str, T.z_sum, T.z_tuple, T.g_BadRow, T.o_BadRow, T.x_BadRow, T.e_BadRow, T.iC_BadRow, T.tI_BadRow, T.Fi_BadRow, T.bi_BadRow, T.n_BadRow_what⟩)⟩
end K18
open PySem PySem.W PyProof.Rows in
set_option maxRecDepth 100000 in
set_option maxHeartbeats 0 in
theorem PySem.Challenge.cw_howeverlost_k18_shortest_walks_holds : PySem.Challenge.rw_howeverlost_k18_shortest_walks.Holds := by
  w_on; o_law; k_head; (case hw => w_witness2)
  k_fill
  refine Bx.walk (l := PySem.Challenge.rw_howeverlost_k18_shortest_walks) (k := 10) rfl rfl ⟨rfl, by decide, by decide⟩ (fun w h Y => PySem.W.kIn_of Y) ?F
  case F =>
    intro w mg fa h KX G hmg
    refine' K18.all_mk KX G hmg ?a_law_straight ?l_law_straight ?c_law_straight ?k_law_straight ?a_law_same ?l_law_same ?c_law_same ?k_law_same ?a_law_source ?l_law_source ?c_law_source ?k_law_source ?a_law_pick ?l_law_pick ?c_law_pick ?k_law_pick ?a_law_renamed ?l_law_renamed ?c_law_renamed ?k_law_renamed ?a_law_table ?l_law_table ?c_law_table ?k_law_table ?a_law_e_drawn_table ?l_law_e_drawn_table ?c_law_e_drawn_table ?k_law_e_drawn_table ?a_law_shuffled ?l_law_shuffled ?c_law_shuffled ?k_law_shuffled ?a_check_bear ?l_check_bear ?c_check_bear ?k_check_bear ?a_check_end ?l_check_end ?c_check_end ?k_check_end ?a_moves_of ?l_moves_of ?c_moves_of ?k_moves_of ?a_moved ?l_moved ?c_moved ?k_moved ?a_steps_left ?l_steps_left ?c_steps_left ?k_steps_left ?a_walk_of ?l_walk_of ?c_walk_of ?k_walk_of ?a_law_e_asked ?l_law_e_asked ?c_law_e_asked ?k_law_e_asked ?a_law_e_question ?l_law_e_question ?c_law_e_question ?k_law_e_question ?a_law_moves ?l_law_moves ?c_law_moves ?k_law_moves ?a_law_walk ?l_law_walk ?c_law_walk ?k_law_walk ?a_law_e_due ?l_law_e_due ?c_law_e_due ?k_law_e_due ?a_law ?l_law ?c_law ?k_law ?z_abs ?z_all ?z_dict ?z_int ?z_isinstance ?z_len ?z_list ?z_range ?z_repr ?z_set ?z_sorted ?z_str ?z_sum ?z_tuple ?aC_BadRow ?xL_BadRow ?rv_BadRow ?sa_BadRow ?ga_BadRow ?gg_BadRow ?eC_BadRow ?tC_BadRow ?kC_BadRow ?hC_BadRow ?iK_BadRow ?sC_BadRow ?a1_BadRow ?t1_BadRow ?l1_BadRow ?c1_BadRow ?k1_BadRow ?no_BadRow_what
    (case a_law_straight => k_is)
    (case l_law_straight => k_is)
    (case c_law_straight => k_is)
    (case k_law_straight => k_is)
    (case a_law_same => k_is)
    (case l_law_same => k_is)
    (case c_law_same => k_is)
    (case k_law_same => k_is)
    (case a_law_source => k_is)
    (case l_law_source => k_is)
    (case c_law_source => k_is)
    (case k_law_source => k_is)
    (case a_law_pick => k_is)
    (case l_law_pick => k_is)
    (case c_law_pick => k_is)
    (case k_law_pick => k_is)
    (case a_law_renamed => k_is)
    (case l_law_renamed => k_is)
    (case c_law_renamed => k_is)
    (case k_law_renamed => k_is)
    (case a_law_table => k_is)
    (case l_law_table => k_is)
    (case c_law_table => k_is)
    (case k_law_table => k_is)
    (case a_law_e_drawn_table => k_is)
    (case l_law_e_drawn_table => k_is)
    (case c_law_e_drawn_table => k_is)
    (case k_law_e_drawn_table => k_is)
    (case a_law_shuffled => k_is)
    (case l_law_shuffled => k_is)
    (case c_law_shuffled => k_is)
    (case k_law_shuffled => k_is)
    (case a_check_bear => k_is)
    (case l_check_bear => k_is)
    (case c_check_bear => k_is)
    (case k_check_bear => k_is)
    (case a_check_end => k_is)
    (case l_check_end => k_is)
    (case c_check_end => k_is)
    (case k_check_end => k_is)
    (case a_moves_of => k_is)
    (case l_moves_of => k_is)
    (case c_moves_of => k_is)
    (case k_moves_of => k_is)
    (case a_moved => k_is)
    (case l_moved => k_is)
    (case c_moved => k_is)
    (case k_moved => k_is)
    (case a_steps_left => k_is)
    (case l_steps_left => k_is)
    (case c_steps_left => k_is)
    (case k_steps_left => k_is)
    (case a_walk_of => k_is)
    (case l_walk_of => k_is)
    (case c_walk_of => k_is)
    (case k_walk_of => k_is)
    (case a_law_e_asked => k_is)
    (case l_law_e_asked => k_is)
    (case c_law_e_asked => k_is)
    (case k_law_e_asked => k_is)
    (case a_law_e_question => k_is)
    (case l_law_e_question => k_is)
    (case c_law_e_question => k_is)
    (case k_law_e_question => k_is)
    (case a_law_moves => k_is)
    (case l_law_moves => k_is)
    (case c_law_moves => k_is)
    (case k_law_moves => k_is)
    (case a_law_walk => k_is)
    (case l_law_walk => k_is)
    (case c_law_walk => k_is)
    (case k_law_walk => k_is)
    (case a_law_e_due => k_is)
    (case l_law_e_due => k_is)
    (case c_law_e_due => k_is)
    (case k_law_e_due => k_is)
    (case a_law => k_is)
    (case l_law => k_is)
    (case c_law => k_is)
    (case k_law => k_is)
    (case z_abs => k_is)
    (case z_all => k_is)
    (case z_dict => k_is)
    (case z_int => k_is)
    (case z_isinstance => k_is)
    (case z_len => k_is)
    (case z_list => k_is)
    (case z_range => k_is)
    (case z_repr => k_is)
    (case z_set => k_is)
    (case z_sorted => k_is)
    (case z_str => k_is)
    (case z_sum => k_is)
    (case z_tuple => k_is)
    (case aC_BadRow => k_is)
    (case xL_BadRow => k_is)
    (case rv_BadRow => decide +kernel)
    (case sa_BadRow => k_is)
    (case ga_BadRow => k_is)
    (case gg_BadRow => k_is)
    (case eC_BadRow => k_is)
    (case tC_BadRow => k_is)
    (case kC_BadRow => k_is)
    (case hC_BadRow => k_is)
    (case iK_BadRow => k_is)
    (case sC_BadRow => first | rfl | k_is)
    (case a1_BadRow => k_is)
    (case t1_BadRow => k_is)
    (case l1_BadRow => k_is)
    (case c1_BadRow => k_is)
    (case k1_BadRow => k_is)
    (case no_BadRow_what => k_is)
#print axioms PySem.Challenge.cw_howeverlost_k18_shortest_walks_holds

