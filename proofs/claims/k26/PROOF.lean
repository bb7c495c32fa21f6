import PyProof.Rows.All
import Wide.All
import OpenK.AllK
import Wide.FinOn
import HandS.ForMost
import HandS.IsInst
import HandS.ForExc
import HandS.Flow
import HandS.ExcInit
import HandS.SortInts
import HandS.RaiseMore
import HandS.Wide
import HandS.Small
import HandS.ExcField
import HandS.WideBits
import HandS.More
import HandS.TupAny
import HandS.Strs
import KE.GoesMore
import KE.GoesNew
import HandS.EndBits
import PySem.Challenge.RW_howeverlost_k26_whole_frames_in_every_cu
set_option Elab.async false
set_option linter.all false
set_option maxRecDepth 100000
set_option maxHeartbeats 1000000
/-! Data layer: values as trees (D), what of them is owned, frozen; canonical readings. -/
namespace Bx
open PySem L2

inductive Kd where
  | lst | tup | wl | wt
  | dk (ks : List Key) | dt (ks : List (List Key))
  | ins (c : Str) (fn : List Str)

inductive D where
  | non | bl (b : Bool) | int (i : Int) | str (x : Str) | ty (n : String)
  | nd (k : Kd) (o : Bool) (xs : List D)

abbrev Fp := Addr → Nat

mutual
def frz : D → D
  | .non => .non | .bl b => .bl b | .int i => .int i | .str x => .str x | .ty n => .ty n
  | .nd k _ xs => .nd k false (frzs xs)
def frzs : List D → List D
  | [] => []
  | x :: xs => frz x :: frzs xs
end

structure Gc where
  K : PySem.W.Frag
  ca : Str → Addr

def At (G : Gc) (H : Hp) (a : Addr) : Kd → List V → Prop
  | .lst, vs => H a = some (.lst vs)
  | .tup, vs => H a = some (.tup vs)
  | .wl, vs => SqL G.K H a vs
  | .wt, vs => SqT G.K H a vs
  | .dk ks, vs => (ks.length = vs.length ∧ ks.Nodup) ∧ H a = some (.dK (ks.zip vs))
  | .dt ks, vs => (ks.length = vs.length ∧ ks.Nodup) ∧ H a = some (.dT (ks.zip vs))
  | .ins c fn, vs => fn.length = vs.length ∧ ∃ dx, H a = some (.ins (G.ca c) dx (fn.zip vs))
/-- a kind that may be owned -/
def Kd.ow : Kd → Bool
  | .wl => false
  | .wt => false
  | _ => true

mutual
inductive Rp (G : Gc) (Hs H : Hp) : V → D → Fp → Prop
  | non {f} (z : ∀ b, f b = 0) : Rp G Hs H .non .non f
  | bl {b f} (z : ∀ b, f b = 0) : Rp G Hs H (.bl b) (.bl b) f
  | int {i f} (z : ∀ b, f b = 0) : Rp G Hs H (.int i) (.int i) f
  | str {x f} (z : ∀ b, f b = 0) : Rp G Hs H (.str x) (.str x) f
  | ty {n f} (z : ∀ b, f b = 0) : Rp G Hs H (.ty n) (.ty n) f
  | sh {a k vs xs f} (h : At G Hs a k vs) (r : Rps G Hs H vs xs f) (z : ∀ b, f b = 0) : Rp G Hs H (.ref a) (.nd k false xs) f
  | own {a k vs xs f g} (h : At G H a k vs) (w : k.ow = true) (n : Hs a = none) (r : Rps G Hs H vs xs f) (e : ∀ b, g b = f b + if b = a then 1 else 0) : Rp G Hs H (.ref a) (.nd k true xs) g
inductive Rps (G : Gc) (Hs H : Hp) : List V → List D → Fp → Prop
  | nil {f} (z : ∀ b, f b = 0) : Rps G Hs H [] [] f
  | cons {v d f vs ds g h} (r : Rp G Hs H v d f) (rs : Rps G Hs H vs ds g) (e : ∀ b, h b = f b + g b) : Rps G Hs H (v :: vs) (d :: ds) h
end

theorem Same.seqT {K : PySem.W.Frag} {H H' : Hp} {a : Addr} {xs : List V} (e : Same H H') (h : SqT K H a xs) : SqT K H' a xs := by
  rcases h with (h | ⟨o, h⟩) | h
  · exact .inl (.inl (e _ _ h))
  · exact .inl (.inr ⟨o, e _ _ h⟩)
  · exact .inr h

section
variable {G : Gc} {Hs Hs' H H' : Hp} {v : V} {d : D} {f g : Fp} {vs : List V} {ds : List D} {a : Addr} {k : Kd}

theorem At.mono (s : Same Hs Hs') (h : At G Hs a k vs) : At G Hs' a k vs := by
  cases k with
  | lst => exact s _ _ h
  | tup => exact s _ _ h
  | wl => exact Same.seq s h
  | wt => exact Same.seqT s h
  | dk ks => exact ⟨h.1, s _ _ h.2⟩
  | dt ks => exact ⟨h.1, s _ _ h.2⟩
  | ins c fn => obtain ⟨h1, dx, h2⟩ := h; exact ⟨h1, dx, s _ _ h2⟩
theorem Rd.eq {u : HO} (e : H' a = H a) (h : Rd H a u) : Rd H' a u := by
  rcases h with h | ⟨o, h⟩
  · exact .inl (e.trans h)
  · exact .inr ⟨o, e.trans h⟩
theorem At.eq (e : H' a = H a) (h : At G H a k vs) : At G H' a k vs := by
  cases k with
  | lst => exact e.trans h
  | tup => exact e.trans h
  | wl => exact Or.imp_left (Rd.eq e) h
  | wt => exact Or.imp_left (Rd.eq e) h
  | dk ks => exact ⟨h.1, e.trans h.2⟩
  | dt ks => exact ⟨h.1, e.trans h.2⟩
  | ins c fn => obtain ⟨h1, dx, h2⟩ := h; exact ⟨h1, dx, e.trans h2⟩
theorem At.live (h : At G H a k vs) (w : k.ow = true) : H a ≠ none := by
  cases k with
  | lst => intro z; rw [show H a = some (.lst vs) from h] at z; cases z
  | tup => intro z; rw [show H a = some (.tup vs) from h] at z; cases z
  | wl => cases w
  | wt => cases w
  | dk ks => intro z; rw [h.2] at z; cases z
  | dt ks => intro z; rw [h.2] at z; cases z
  | ins c fn => obtain ⟨h1, dx, h2⟩ := h; intro z; rw [h2] at z; cases z

mutual
theorem Rp.mono {v : V} {d : D} {f : Fp} (s : Same Hs Hs') : Rp G Hs H v d f → (∀ b, f b ≠ 0 → H' b = H b ∧ Hs' b = none) → Rp G Hs' H' v d f
  | .non z, _ => .non z
  | .bl z, _ => .bl z
  | .int z, _ => .int z
  | .str z, _ => .str z
  | .ty z, _ => .ty z
  | .sh h r z, k => .sh (h.mono s) (Rps.mono s r fun b hb => absurd (z b) hb) z
  | .own (a := a) h w n r e, k => by
    have ka := k a (by rw [e a, if_pos rfl]; omega)
    exact .own (h.eq ka.1) w ka.2 (Rps.mono s r fun b hb => k b (by rw [e b]; omega)) e
theorem Rps.mono {vs : List V} {ds : List D} {f : Fp} (s : Same Hs Hs') : Rps G Hs H vs ds f → (∀ b, f b ≠ 0 → H' b = H b ∧ Hs' b = none) → Rps G Hs' H' vs ds f
  | .nil z, _ => .nil z
  | .cons r rs e, k => .cons (Rp.mono s r fun b hb => k b (by rw [e b]; omega)) (Rps.mono s rs fun b hb => k b (by rw [e b]; omega)) e
end
mutual
theorem Rp.live {v : V} {d : D} {f : Fp} : Rp G Hs H v d f → ∀ b, f b ≠ 0 → H b ≠ none ∧ Hs b = none
  | .non z, b, hb => absurd (z b) hb
  | .bl z, b, hb => absurd (z b) hb
  | .int z, b, hb => absurd (z b) hb
  | .str z, b, hb => absurd (z b) hb
  | .ty z, b, hb => absurd (z b) hb
  | .sh h r z, b, hb => absurd (z b) hb
  | .own (a := a) h w n r e, b, hb => by
    by_cases hba : b = a
    · subst hba; exact ⟨h.live w, n⟩
    · rw [e b, if_neg hba] at hb
      exact Rps.live r b hb
theorem Rps.live {vs : List V} {ds : List D} {f : Fp} : Rps G Hs H vs ds f → ∀ b, f b ≠ 0 → H b ≠ none ∧ Hs b = none
  | .nil z, b, hb => absurd (z b) hb
  | .cons (f := f1) (g := g1) r rs e, b, hb => by
    by_cases h1 : f1 b = 0
    · exact Rps.live rs b (by rw [e b, h1] at hb; simpa using hb)
    · exact Rp.live r b h1
end
mutual
/-- what is owned is laid into the frozen part -/
theorem Rp.frz {v : V} {d : D} {f : Fp} (s : Same Hs Hs') {f0 : Fp} (z0 : ∀ b, f0 b = 0) : Rp G Hs H v d f → (∀ b, f b ≠ 0 → Hs' b = H b) → Rp G Hs' H v (frz d) f0
  | .non z, _ => .non z0
  | .bl z, _ => .bl z0
  | .int z, _ => .int z0
  | .str z, _ => .str z0
  | .ty z, _ => .ty z0
  | .sh h r z, k => .sh (h.mono s) (Rps.frz s z0 r fun b hb => absurd (z b) hb) z0
  | .own (a := a) h w n r e, k => by
    have ka := k a (by rw [e a, if_pos rfl]; omega)
    exact .sh (h.eq ka) (Rps.frz s z0 r fun b hb => k b (by rw [e b]; omega)) z0
theorem Rps.frz {vs : List V} {ds : List D} {f : Fp} (s : Same Hs Hs') {f0 : Fp} (z0 : ∀ b, f0 b = 0) : Rps G Hs H vs ds f → (∀ b, f b ≠ 0 → Hs' b = H b) → Rps G Hs' H vs (frzs ds) f0
  | .nil z, _ => .nil z0
  | .cons r rs e, k => .cons (Rp.frz s z0 r fun b hb => k b (by rw [e b]; omega)) (Rps.frz s z0 rs fun b hb => k b (by rw [e b]; omega)) (fun b => by rw [z0 b])
end
mutual
theorem Rp.fp {v : V} {d : D} {f f' : Fp} : Rp G Hs H v d f → (∀ b, f' b = f b) → Rp G Hs H v d f'
  | .non z, e => .non fun b => (e b).trans (z b)
  | .bl z, e => .bl fun b => (e b).trans (z b)
  | .int z, e => .int fun b => (e b).trans (z b)
  | .str z, e => .str fun b => (e b).trans (z b)
  | .ty z, e => .ty fun b => (e b).trans (z b)
  | .sh h r z, e => .sh h (Rps.fp r e) fun b => (e b).trans (z b)
  | .own h w n r e', e => .own h w n r fun b => (e b).trans (e' b)
theorem Rps.fp {vs : List V} {ds : List D} {f f' : Fp} : Rps G Hs H vs ds f → (∀ b, f' b = f b) → Rps G Hs H vs ds f'
  | .nil z, e => .nil fun b => (e b).trans (z b)
  | .cons r rs e', e => .cons r rs fun b => (e b).trans (e' b)
end
theorem Rps.len : ∀ {vs : List V} {ds : List D} {f : Fp}, Rps G Hs H vs ds f → vs.length = ds.length
  | _, _, _, .nil _ => rfl
  | _, _, _, .cons _ rs _ => congrArg (· + 1) rs.len
theorem Rps.app : ∀ {vs ws : List V} {ds es : List D} {f g h : Fp}, Rps G Hs H vs ds f → Rps G Hs H ws es g → (∀ b, h b = f b + g b) → Rps G Hs H (vs ++ ws) (ds ++ es) h
  | _, _, _, _, _, _, _, .nil z, r, e => r.fp fun b => by rw [e b, z b]; omega
  | _, _, _, _, _, g, h, .cons (f := f1) (g := g1) r rs e', r2, e => .cons r (Rps.app rs r2 (h := fun b => g1 b + g b) fun b => rfl) fun b => by rw [e b, e' b]; show _ = f1 b + (g1 b + g b); omega
/-- one of them, and the others -/
theorem Rps.get : ∀ {vs : List V} {ds : List D} {f : Fp} {i : Nat} {d : D}, Rps G Hs H vs ds f → ds[i]? = some d →
    ∃ (v : V) (f1 f2 : Fp), vs[i]? = some v ∧ Rp G Hs H v d f1 ∧ (∀ b, f b = f1 b + f2 b) ∧
      (∀ v' d' f1' f', Rp G Hs H v' d' f1' → (∀ b, f' b = f1' b + f2 b) → Rps G Hs H (vs.set i v') (ds.set i d') f')
  | _, _, _, i, _, .nil _, h => by simp at h
  | _, _, _, 0, _, .cons (f := f1) (g := g1) r rs e, h => by
    simp at h; subst h
    exact ⟨_, f1, g1, rfl, r, e, fun v' d' f1' f' r' e' => .cons r' rs e'⟩
  | _, _, _, i + 1, _, .cons (f := f1) (g := g1) r rs e, h => by
    obtain ⟨v, a1, a2, h1, h2, h3, h4⟩ := Rps.get rs (i := i) (by simpa using h)
    refine ⟨v, a1, fun b => f1 b + a2 b, by simpa using h1, h2, fun b => by rw [e b, h3 b]; show _ = a1 b + (f1 b + a2 b); omega, fun v' d' f1' f' r' e' => ?_⟩
    exact .cons r (h4 v' d' f1' (fun b => f1' b + a2 b) r' fun b => rfl) fun b => by rw [e' b]; show f1' b + (f1 b + a2 b) = f1 b + (f1' b + a2 b); omega
end

/-! ### slots -/
inductive Sls (G : Gc) (Hs H : Hp) : L2.St → List (Option D) → Fp → Prop
  | nil {f} (z : ∀ b, f b = 0) : Sls G Hs H [] [] f
  | no {o σ e f} (r : Sls G Hs H σ e f) : Sls G Hs H (o :: σ) (none :: e) f
  | yes {v d f σ e g h} (r : Rp G Hs H v d f) (rs : Sls G Hs H σ e g) (q : ∀ b, h b = f b + g b) : Sls G Hs H (some v :: σ) (some d :: e) h
section
variable {G : Gc} {Hs Hs' H H' : Hp}
theorem Sls.fp : ∀ {σ : L2.St} {e : List (Option D)} {f f' : Fp}, Sls G Hs H σ e f → (∀ b, f' b = f b) → Sls G Hs H σ e f'
  | _, _, _, _, .nil z, q => .nil fun b => (q b).trans (z b)
  | _, _, _, _, .no r, q => .no (r.fp q)
  | _, _, _, _, .yes r rs e, q => .yes r rs fun b => (q b).trans (e b)
theorem Sls.mono (s : Same Hs Hs') : ∀ {σ : L2.St} {e : List (Option D)} {f : Fp}, Sls G Hs H σ e f → (∀ b, f b ≠ 0 → H' b = H b ∧ Hs' b = none) → Sls G Hs' H' σ e f
  | _, _, _, .nil z, _ => .nil z
  | _, _, _, .no r, k => .no (r.mono s k)
  | _, _, _, .yes r rs e, k => .yes (r.mono s fun b hb => k b (by rw [e b]; omega)) (rs.mono s fun b hb => k b (by rw [e b]; omega)) e
theorem Sls.live : ∀ {σ : L2.St} {e : List (Option D)} {f : Fp}, Sls G Hs H σ e f → ∀ b, f b ≠ 0 → H b ≠ none ∧ Hs b = none
  | _, _, _, .nil z, b, hb => absurd (z b) hb
  | _, _, _, .no r, b, hb => r.live b hb
  | _, _, _, .yes (f := f1) r rs e, b, hb => by
    by_cases h1 : f1 b = 0
    · exact rs.live b (by rw [e b, h1] at hb; simpa using hb)
    · exact r.live b h1
theorem Sls.len : ∀ {σ : L2.St} {e : List (Option D)} {f : Fp}, Sls G Hs H σ e f → σ.length = e.length
  | _, _, _, .nil _ => rfl
  | _, _, _, .no r => congrArg (· + 1) r.len
  | _, _, _, .yes _ rs _ => congrArg (· + 1) rs.len
/-- one slot and the others: its value, what is left without it, what may be put there -/
theorem Sls.get : ∀ {σ : L2.St} {e : List (Option D)} {f : Fp} {i : Nat} {d : D}, Sls G Hs H σ e f → e[i]? = some (some d) →
    ∃ (v : V) (f1 f2 : Fp), σ[i]? = some (some v) ∧ Rp G Hs H v d f1 ∧ (∀ b, f b = f1 b + f2 b) ∧ Sls G Hs H σ (e.set i none) f2
  | _, _, _, i, _, .nil _, h => by simp at h
  | _, _, _, 0, _, .no r, h => by simp at h
  | _, _, _, i + 1, _, .no r, h => by
    obtain ⟨v, f1, f2, h1, h2, h3, h4⟩ := Sls.get r (i := i) (by simpa using h)
    exact ⟨v, f1, f2, by simpa using h1, h2, h3, .no h4⟩
  | _, _, _, 0, _, .yes (f := f1) (g := g1) r rs q, h => by
    simp at h; subst h
    exact ⟨_, f1, g1, rfl, r, q, .no rs⟩
  | _, _, _, i + 1, _, .yes (f := f1) (g := g1) r rs q, h => by
    obtain ⟨v, a1, a2, h1, h2, h3, h4⟩ := Sls.get rs (i := i) (by simpa using h)
    exact ⟨v, a1, fun b => f1 b + a2 b, by simpa using h1, h2, fun b => by rw [q b, h3 b]; show _ = a1 b + (f1 b + a2 b); omega, .yes r h4 fun b => rfl⟩
/-- a value into a slot that holds none -/
theorem Sls.put : ∀ {σ : L2.St} {e : List (Option D)} {f g h : Fp} {i : Nat} {v : V} {d : D}, Sls G Hs H σ e f → e[i]? = some none → Rp G Hs H v d g → (∀ b, h b = g b + f b) →
    Sls G Hs H (σ.set i (some v)) (e.set i (some d)) h
  | _, _, _, _, _, i, _, _, .nil _, h, _, _ => by simp at h
  | _, _, _, _, _, 0, _, _, .no r, h, rp, q => .yes rp r q
  | _, _, _, _, _, i + 1, _, _, .no r, h, rp, q => .no (Sls.put r (by simpa using h) rp q)
  | _, _, _, _, _, 0, _, _, .yes r rs q, h, _, _ => by simp at h
  | _, _, _, g, _, i + 1, _, _, .yes (f := f1) (g := g1) r rs q, h, rp, q2 => .yes r (Sls.put rs (h := fun b => g b + g1 b) (by simpa using h) rp fun b => rfl) fun b => by rw [q2 b, q b]; show _ = f1 b + (g b + g1 b); omega
/-- a slot forgotten -/
theorem Sls.forget : ∀ {σ : L2.St} {e : List (Option D)} {f : Fp} (i : Nat), Sls G Hs H σ e f → ∃ (f1 f2 : Fp), (∀ b, f b = f1 b + f2 b) ∧ Sls G Hs H σ (e.set i none) f2
  | _, _, f, i, .nil z => ⟨fun _ => 0, f, fun b => (Nat.zero_add _).symm, .nil z⟩
  | _, _, f, 0, .no r => ⟨fun _ => 0, f, fun b => (Nat.zero_add _).symm, .no r⟩
  | _, _, f, i + 1, .no r => by
    obtain ⟨f1, f2, h1, h2⟩ := Sls.forget i r
    exact ⟨f1, f2, h1, .no h2⟩
  | _, _, _, 0, .yes (f := f1) (g := g1) r rs q => ⟨f1, g1, q, .no rs⟩
  | _, _, _, i + 1, .yes (f := f1) (g := g1) r rs q => by
    obtain ⟨a1, a2, h1, h2⟩ := Sls.forget i rs
    exact ⟨a1, fun b => f1 b + a2 b, fun b => by rw [q b, h1 b]; show _ = a1 b + (f1 b + a2 b); omega, .yes r h2 fun b => rfl⟩
/-- the slots' values may be any where nothing is known -/
theorem Sls.slot : ∀ {σ : L2.St} {e : List (Option D)} {f : Fp} {i : Nat} (o : Option V), Sls G Hs H σ e f → e[i]? = some none → Sls G Hs H (σ.set i o) e f
  | _, _, _, i, _, .nil _, h => by simp at h
  | _, _, _, 0, _, .no r, h => .no r
  | _, _, _, i + 1, o, .no r, h => .no (Sls.slot o r (by simpa using h))
  | _, _, _, 0, _, .yes r rs q, h => by simp at h
  | _, _, _, i + 1, o, .yes r rs q, h => .yes r (Sls.slot o rs (by simpa using h)) q
end

/-! ### the state: frozen part Hs, heap H, what is owned fe, what others hold P -/
def Lk : HO → Prop
  | .dK _ => True
  | .dT _ => True
  | _ => False
/-- what is frozen stands (a dict may be locked) -/
def Sm (Hs H : Hp) : Prop := ∀ a o, Hs a = some o → H a = some o ∨ (Lk o ∧ ∃ od, H a = some (.frz od o))
theorem Sm.rd {Hs H : Hp} {a : Addr} {o : HO} (s : Sm Hs H) (h : Hs a = some o) : Rd H a o := by
  rcases s a o h with h | ⟨_, od, h⟩
  · exact .inl h
  · exact .inr ⟨od, h⟩
theorem Sm.sqL {K : PySem.W.Frag} {Hs H : Hp} {a : Addr} {xs : List V} (s : Sm Hs H) (h : SqL K Hs a xs) : SqL K H a xs := by
  rcases h with (h | ⟨o, h⟩) | h
  · exact .inl (s.rd h)
  · rcases s _ _ h with h | ⟨z, _⟩
    · exact .inl (.inr ⟨o, h⟩)
    · exact z.elim
  · exact .inr h
theorem Sm.sqT {K : PySem.W.Frag} {Hs H : Hp} {a : Addr} {xs : List V} (s : Sm Hs H) (h : SqT K Hs a xs) : SqT K H a xs := by
  rcases h with (h | ⟨o, h⟩) | h
  · exact .inl (s.rd h)
  · rcases s _ _ h with h | ⟨z, _⟩
    · exact .inl (.inr ⟨o, h⟩)
    · exact z.elim
  · exact .inr h
theorem Sm.live {Hs H : Hp} {a : Addr} (s : Sm Hs H) (h : H a = none) : Hs a = none := by
  cases q : Hs a with
  | none => rfl
  | some o =>
    rcases s a o q with z | ⟨_, od, z⟩ <;> (rw [h] at z; cases z)

structure Wf (Hs H : Hp) (f : Fp) (P : Addr → Prop) : Prop where
  sm : Sm Hs H
  one : ∀ b, f b ≤ 1
  own : ∀ b, f b ≠ 0 → Hs b = none
  apart : ∀ b, P b → f b = 0
  live : ∀ b, P b → H b ≠ none
/-- behind a step: the frozen part has grown, what others hold is as it was -/
structure Aft (Hs H Hs' H' : Hp) (P : Addr → Prop) : Prop where
  sh : Same Hs Hs'
  keep : ∀ b, P b → H' b = H b ∧ Hs' b = Hs b
  mono : ∀ b, H' b = none → H b = none
theorem Aft.refl (Hs H : Hp) (P : Addr → Prop) : Aft Hs H Hs H P := ⟨Same.refl _, fun _ _ => ⟨rfl, rfl⟩, fun _ h => h⟩
theorem Aft.trans {Hs H Hs1 H1 Hs2 H2 : Hp} {P : Addr → Prop} (a : Aft Hs H Hs1 H1 P) (b : Aft Hs1 H1 Hs2 H2 P) : Aft Hs H Hs2 H2 P :=
  ⟨a.sh.trans b.sh, fun c hc => ⟨(b.keep c hc).1.trans (a.keep c hc).1, (b.keep c hc).2.trans (a.keep c hc).2⟩, fun c h => a.mono c (b.mono c h)⟩
theorem Aft.weak {Hs H Hs1 H1 : Hp} {P P' : Addr → Prop} (a : Aft Hs H Hs1 H1 P) (h : ∀ b, P' b → P b) : Aft Hs H Hs1 H1 P' := ⟨a.sh, fun b hb => a.keep b (h b hb), a.mono⟩

/-- the exception at hand: its class, its attributes -/
structure Exc where
  c : Str
  fn : List Str
  xs : List D
/-- an environment: the slots' data, the exception at hand -/
structure En where
  sl : List (Option D)
  ex : Option Exc := none
structure Cc extends Gc where
  pins : List (Nat × V)
  xa : Option (Addr × Value × Option Addr)
def ExD (G : Gc) (Hs H : Hp) (dd : Addr) (x : Exc) : Prop := ∃ vs, Hs dd = some (.xd (x.fn.zip vs)) ∧ x.fn.length = vs.length ∧ Rps G Hs H vs x.xs fun _ => 0
def ExOk (C : Cc) (Hs H : Hp) (o : Option Exc) : Prop := match o with
  | none => True
  | some x => ∃ a dd, C.xa = some (a, .ref (C.ca x.c), some dd) ∧ ExD C.toGc Hs H dd x
structure Ok (C : Cc) (Hs H : Hp) (σ : L2.St) (e : En) (fe fx : Fp) (P : Addr → Prop) : Prop where
  wf : Wf Hs H (fun b => fe b + fx b) P
  sl : Sls C.toGc Hs H σ e.sl fe
  pn : ∀ p ∈ C.pins, σ[p.1]? = some (some p.2)
  ex : ExOk C Hs H e.ex
abbrev f0 : Fp := fun _ => 0

theorem ExD.mono {G : Gc} {Hs H Hs' H' : Hp} {dd : Addr} {x : Exc} (s : Same Hs Hs') (h : ExD G Hs H dd x) : ExD G Hs' H' dd x := by
  obtain ⟨vs, h1, h2, h3⟩ := h
  exact ⟨vs, s _ _ h1, h2, h3.mono s fun b hb => absurd rfl hb⟩
theorem ExOk.mono {C : Cc} {Hs H Hs' H' : Hp} {o : Option Exc} (s : Same Hs Hs') (h : ExOk C Hs H o) : ExOk C Hs' H' o := by
  cases o with
  | none => trivial
  | some x =>
    obtain ⟨a, dd, h1, h2⟩ := h
    exact ⟨a, dd, h1, h2.mono s⟩
section
variable {C : Cc} {Hs H Hs' H' : Hp} {σ : L2.St} {e : En} {fe fx fv : Fp} {P : Addr → Prop}
theorem Ok.sm (o : Ok C Hs H σ e fe fx P) : Sm Hs H := o.wf.sm
theorem Ok.liveX (o : Ok C Hs H σ e fe fx P) {b : Addr} (h : H b = none) : fe b = 0 := by
  by_cases z : fe b = 0
  · exact z
  · exact absurd h (o.sl.live b z).1
/-- what is held at hand goes to the others -/
theorem Ok.hold {v : V} {d : D} (o : Ok C Hs H σ e fe fv P) (r : Rp C.toGc Hs H v d fv) : Ok C Hs H σ e fe f0 (fun b => P b ∨ fv b ≠ 0) :=
  ⟨⟨o.wf.sm, fun b => by have := o.wf.one b; simp only [f0] at *; omega, fun b hb => o.wf.own b (by simp only [f0] at *; omega), fun b hb => by
      rcases hb with hb | hb
      · have := o.wf.apart b hb; simp only [f0] at *; omega
      · have := o.wf.one b; simp only [f0] at *; omega, fun b hb => by
      rcases hb with hb | hb
      · exact o.wf.live b hb
      · exact (r.live b hb).1⟩, o.sl, o.pn, o.ex⟩
theorem Ok.holds {vs : List V} {ds : List D} (o : Ok C Hs H σ e fe fv P) (r : Rps C.toGc Hs H vs ds fv) : Ok C Hs H σ e fe f0 (fun b => P b ∨ fv b ≠ 0) :=
  ⟨⟨o.wf.sm, fun b => by have := o.wf.one b; simp only [f0] at *; omega, fun b hb => o.wf.own b (by simp only [f0] at *; omega), fun b hb => by
      rcases hb with hb | hb
      · have := o.wf.apart b hb; simp only [f0] at *; omega
      · have := o.wf.one b; simp only [f0] at *; omega, fun b hb => by
      rcases hb with hb | hb
      · exact o.wf.live b hb
      · exact (r.live b hb).1⟩, o.sl, o.pn, o.ex⟩
/-- and back: fv was held -/
theorem Ok.back (o : Ok C Hs' H' σ e fe fx (fun b => P b ∨ fv b ≠ 0)) (one : ∀ b, fv b ≤ 1) (ap : ∀ b, P b → fv b = 0) (ow : ∀ b, fv b ≠ 0 → Hs b = none) (aft : Aft Hs H Hs' H' (fun b => P b ∨ fv b ≠ 0)) : Ok C Hs' H' σ e fe (fun b => fv b + fx b) P :=
  ⟨⟨o.wf.sm, fun b => by
      by_cases z : fv b = 0
      · have := o.wf.one b; omega
      · have := o.wf.apart b (.inr z); have := one b; omega, fun b hb => by
      by_cases z : fv b = 0
      · exact o.wf.own b (by omega)
      · rw [(aft.keep b (.inr z)).2]; exact ow b z, fun b hb => by
      have := o.wf.apart b (.inl hb); have := ap b hb; omega, fun b hb => o.wf.live b (.inl hb)⟩, o.sl, o.pn, o.ex⟩
theorem Ok.fps {fe' fx' : Fp} (o : Ok C Hs H σ e fe fx P) (h : ∀ b, fe' b = fe b) (h2 : ∀ b, fx' b = fx b) : Ok C Hs H σ e fe' fx' P := by
  have e1 : fe' = fe := funext h
  have e2 : fx' = fx := funext h2
  subst e1 e2; exact o
/-- less is held -/
theorem Ok.less {fx' : Fp} (o : Ok C Hs H σ e fe fx P) (h : ∀ b, fx' b ≤ fx b) : Ok C Hs H σ e fe fx' P :=
  ⟨⟨o.wf.sm, fun b => by have := o.wf.one b; have := h b; omega, fun b hb => o.wf.own b (by have := h b; omega), fun b hb => by have := o.wf.apart b hb; have := h b; omega, o.wf.live⟩, o.sl, o.pn, o.ex⟩
/-- what is at hand is frozen -/
theorem Ok.fz (o : Ok C Hs H σ e fe (fun b => fv b + fx b) P) :
    ∃ Hs', Aft Hs H Hs' H P ∧ Ok C Hs' H σ e fe fx P ∧ ∀ b, Hs' b = (if fv b ≠ 0 then H b else Hs b) := by
  have s : Same Hs (fun b => if fv b ≠ 0 then H b else Hs b) := fun b u hb => by
    by_cases z : fv b = 0
    · show (if fv b ≠ 0 then H b else Hs b) = some u
      rw [if_neg (by omega)]; exact hb
    · have := o.wf.own b (by omega)
      rw [hb] at this; cases this
  refine ⟨fun b => if fv b ≠ 0 then H b else Hs b, ⟨s, fun b hb => ⟨rfl, ?_⟩, fun _ h => h⟩, ⟨⟨fun b u hb => ?_, fun b => by have := o.wf.one b; omega, fun b hb => ?_, fun b hb => by have := o.wf.apart b hb; omega, o.wf.live⟩, o.sl.mono s fun b hb => ⟨rfl, ?_⟩, o.pn, o.ex.mono s⟩, fun _ => rfl⟩
  · have := o.wf.apart b hb
    show (if fv b ≠ 0 then H b else Hs b) = Hs b
    rw [if_neg (by omega)]
  · by_cases z : fv b = 0
    · rw [if_neg (by omega)] at hb; exact o.wf.sm b u hb
    · rw [if_pos z] at hb; exact .inl hb
  · have := o.wf.one b
    rw [if_neg (by omega)]
    exact o.wf.own b (by omega)
  · have := o.wf.one b
    show (if fv b ≠ 0 then H b else Hs b) = none
    rw [if_neg (by omega)]
    exact o.wf.own b (by omega)
theorem Ok.freeze {v : V} {d : D} (o : Ok C Hs H σ e fe (fun b => fv b + fx b) P) (r : Rp C.toGc Hs H v d fv) :
    ∃ Hs', Aft Hs H Hs' H P ∧ Ok C Hs' H σ e fe fx P ∧ Rp C.toGc Hs' H v (frz d) f0 ∧ ∀ b, Hs' b = (if fv b ≠ 0 then H b else Hs b) := by
  obtain ⟨Hs', a, ok, he⟩ := o.fz
  exact ⟨Hs', a, ok, r.frz a.sh (fun _ => rfl) fun b hb => by rw [he b, if_pos hb], he⟩
theorem Ok.freezes {vs : List V} {ds : List D} (o : Ok C Hs H σ e fe fv P) (r : Rps C.toGc Hs H vs ds fv) :
    ∃ Hs', Aft Hs H Hs' H P ∧ Ok C Hs' H σ e fe f0 P ∧ Rps C.toGc Hs' H vs (frzs ds) f0 := by
  obtain ⟨Hs', a, ok, he⟩ := (o.fps (fe' := fe) (fx' := fun b => fv b + f0 b) (fun _ => rfl) fun _ => rfl).fz
  exact ⟨Hs', a, ok, r.frz a.sh (fun _ => rfl) fun b hb => by rw [he b, if_pos hb]⟩
end

/-! ### answers, canonical readings -/
inductive Rs (α : Type) where
  | bad
  | ok (a : α) (e : En)
  | exc (x : Exc) (e : En)
def Rs.bind {α β : Type} (r : Rs α) (k : α → En → Rs β) : Rs β := match r with
  | .bad => .bad
  | .ok a e => k a e
  | .exc x e => .exc x e
/-- an answer that may lack -/
def Rs.opt {α : Type} (o : Option α) (e : En) : Rs α := match o with
  | some z => .ok z e
  | none => .bad
inductive So where
  | bad | nx (e : En) | bk (e : En) | ct (e : En) | rt (d : D) (e : En) | exc (x : Exc) (e : En)

abbrev FE := En → Rs D
abbrev FT := En → Rs Bool
abbrev FS := En → So
/-- an argument: a value, or a slot that is handed on to be changed -/
inductive AV where
  | d (x : D) | io (i : Nat)
abbrev FA := En → Rs (List AV)
/-- arguments at hand -/
inductive Ra (G : Gc) (Hs H : Hp) (σ : L2.St) : List V → List AV → Fp → Prop
  | nil {f} (z : ∀ b, f b = 0) : Ra G Hs H σ [] [] f
  | d {v x f vs as g h} (r : Rp G Hs H v x f) (rs : Ra G Hs H σ vs as g) (e : ∀ b, h b = f b + g b) : Ra G Hs H σ (v :: vs) (.d x :: as) h
  | io {v i vs as g} (s : σ[i]? = some (some v)) (rs : Ra G Hs H σ vs as g) : Ra G Hs H σ (v :: vs) (.io i :: as) g

section
variable (C : Cc) (W : WX)
def XcK (Hs H : Hp) (P : Addr → Prop) (σ : L2.St) (x : Exc) (e' : En) : Prop :=
  ∀ dd Hs' H' fe', Aft Hs H Hs' H' P → Ok C Hs' H' σ e' fe' f0 P → ExD C.toGc Hs' H' dd x → W (.ref (C.ca x.c)) (some dd) σ H'
def EndE (r : Rs D) (Hs H : Hp) (P : Addr → Prop) (σ : L2.St) (Q : VK) : Prop := match r with
  | .bad => False
  | .ok d e' => ∀ v Hs' H' fe' fv, Aft Hs H Hs' H' P → Ok C Hs' H' σ e' fe' fv P → Rp C.toGc Hs' H' v d fv → Q v H'
  | .exc x e' => XcK C W Hs H P σ x e'
def EndT (r : Rs Bool) (Hs H : Hp) (P : Addr → Prop) (σ : L2.St) (Q : Bool → Hp → Prop) : Prop := match r with
  | .bad => False
  | .ok b e' => ∀ Hs' H' fe', Aft Hs H Hs' H' P → Ok C Hs' H' σ e' fe' f0 P → Q b H'
  | .exc x e' => XcK C W Hs H P σ x e'
def EndA (r : Rs (List AV)) (Hs H : Hp) (P : Addr → Prop) (σ : L2.St) (Q : List V → Hp → Prop) : Prop := match r with
  | .bad => False
  | .ok as e' => ∀ vs Hs' H' fe' fv, Aft Hs H Hs' H' P → Ok C Hs' H' σ e' fe' fv P → Ra C.toGc Hs' H' σ vs as fv → Q vs H'
  | .exc x e' => XcK C W Hs H P σ x e'
def EndS (r : So) (Hs H : Hp) (P : Addr → Prop) (N : Ends) : Prop := match r with
  | .bad => False
  | .nx e' => ∀ σ' Hs' H' fe', Aft Hs H Hs' H' P → Ok C Hs' H' σ' e' fe' f0 P → N.nx σ' H'
  | .bk e' => ∀ σ' Hs' H' fe', Aft Hs H Hs' H' P → Ok C Hs' H' σ' e' fe' f0 P → N.bk σ' H'
  | .ct e' => ∀ σ' Hs' H' fe', Aft Hs H Hs' H' P → Ok C Hs' H' σ' e' fe' f0 P → N.ct σ' H'
  | .rt d e' => ∀ v σ' Hs' H' fe' fv, Aft Hs H Hs' H' P → Ok C Hs' H' σ' e' fe' fv P → Rp C.toGc Hs' H' v d fv → N.rt v H'
  | .exc x e' => ∀ dd σ' Hs' H' fe', Aft Hs H Hs' H' P → Ok C Hs' H' σ' e' fe' f0 P → ExD C.toGc Hs' H' dd x → W (.ref (C.ca x.c)) (some dd) σ' H'
def canE (F : FE) : TE := fun σ H Q => ∃ e Hs fe P, Ok C Hs H σ e fe f0 P ∧ EndE C W (F e) Hs H P σ Q
def canT (F : FT) : TT := fun σ H Q => ∃ e Hs fe P, Ok C Hs H σ e fe f0 P ∧ EndT C W (F e) Hs H P σ Q
def canA (F : FA) : TA := fun σ H Q => ∃ e Hs fe P, Ok C Hs H σ e fe f0 P ∧ EndA C W (F e) Hs H P σ Q
def canS (F : FS) : TS := fun N σ H => ∃ e Hs fe P, Ok C Hs H σ e fe f0 P ∧ EndS C W (F e) Hs H P N
end

/-! ### judgements -/
def BE (X : Cx) (C : Cc) (W : WX) (e : Expr) (F : FE) : Prop := PE X e (canE C W F)
def BT (X : Cx) (C : Cc) (W : WX) (e : Expr) (F : FT) : Prop := PT X e (canT C W F)
def BA (X : Cx) (C : Cc) (W : WX) (es : List Expr) (F : FA) : Prop := PA X es (canA C W F)
def BS (X : Cx) (C : Cc) (W : WX) (s : Stmt) (F : FS) : Prop := PS X s (canS C W F)
def BSs (X : Cx) (C : Cc) (W : WX) (s : List Stmt) (F : FS) : Prop := PSs X s (canS C W F)
theorem _root_.L2.PE.imp {X : Cx} {e : Expr} {t t' : TE} (h : PE X e t) (i : ∀ σ H Q, t' σ H Q → t σ H Q) : PE X e t' := ⟨fun pins s σ H Q I q => h.run pins s σ H Q I (i _ _ _ q)⟩
theorem _root_.L2.PE.or {X : Cx} {e : Expr} {t t' : TE} (h : PE X e t) (h' : PE X e t') : PE X e (fun σ H Q => t σ H Q ∨ t' σ H Q) :=
  ⟨fun pins s σ H Q I q => q.elim (h.run pins s σ H Q I) (h'.run pins s σ H Q I)⟩
theorem _root_.L2.PT.imp {X : Cx} {e : Expr} {t t' : TT} (h : PT X e t) (i : ∀ σ H Q, t' σ H Q → t σ H Q) : PT X e t' := ⟨fun pins s σ H Q I q => h.run pins s σ H Q I (i _ _ _ q)⟩
theorem _root_.L2.PT.or {X : Cx} {e : Expr} {t t' : TT} (h : PT X e t) (h' : PT X e t') : PT X e (fun σ H Q => t σ H Q ∨ t' σ H Q) :=
  ⟨fun pins s σ H Q I q => q.elim (h.run pins s σ H Q I) (h'.run pins s σ H Q I)⟩
theorem _root_.L2.PW.imp {X : Cx} {e : Expr} {t t' : TT} (h : PW X e t) (i : ∀ σ H Q, t' σ H Q → t σ H Q) : PW X e t' := ⟨fun w pins s σ H Q I q => h.run w pins s σ H Q I (i _ _ _ q)⟩
theorem _root_.L2.PA.imp {X : Cx} {e : List Expr} {t t' : TA} (h : PA X e t) (i : ∀ σ H Q, t' σ H Q → t σ H Q) : PA X e t' := ⟨fun p pins s σ H Q I q => h.run p pins s σ H Q I (i _ _ _ q)⟩
theorem _root_.L2.PS.imp {X : Cx} {e : Stmt} {t t' : TS} (h : PS X e t) (i : ∀ D σ H, t' D σ H → t D σ H) : PS X e t' := ⟨fun pins s σ H D I q => h.run pins s σ H D I (i _ _ _ q)⟩
theorem _root_.L2.PS.or {X : Cx} {e : Stmt} {t t' : TS} (h : PS X e t) (h' : PS X e t') : PS X e (fun D σ H => t D σ H ∨ t' D σ H) :=
  ⟨fun pins s σ H D I q => q.elim (h.run pins s σ H D I) (h'.run pins s σ H D I)⟩
theorem _root_.L2.PSs.imp {X : Cx} {e : List Stmt} {t t' : TS} (h : PSs X e t) (i : ∀ D σ H, t' D σ H → t D σ H) : PSs X e t' := ⟨fun pins s σ H D I q => h.run pins s σ H D I (i _ _ _ q)⟩
end Bx

set_option Elab.async false
set_option linter.all false
set_option maxRecDepth 100000
set_option maxHeartbeats 1000000
/-! Rules of the data layer: steps in a row. -/
namespace Bx
open PySem L2

/-- what stands while others run -/
structure Held (R : Hp → Hp → Prop) (fv : Fp) (Hs H : Hp) : Prop where
  now : R Hs H
  stay : ∀ Hs' H', Same Hs Hs' → (∀ b, fv b ≠ 0 → H' b = H b ∧ Hs' b = none) → R Hs' H'
  live : ∀ b, fv b ≠ 0 → H b ≠ none
section
variable {G : Gc} {Hs H : Hp} {σ : L2.St} {fv : Fp}
theorem Held.tr : Held (fun _ _ => True) f0 Hs H := ⟨trivial, fun _ _ _ _ => trivial, fun _ h => absurd rfl h⟩
theorem Held.rp {v : V} {d : D} (r : Rp G Hs H v d fv) : Held (fun Hs H => Rp G Hs H v d fv) fv Hs H := ⟨r, fun _ _ s k => r.mono s k, fun b h => (r.live b h).1⟩
theorem Held.rps {v : List V} {d : List D} (r : Rps G Hs H v d fv) : Held (fun Hs H => Rps G Hs H v d fv) fv Hs H := ⟨r, fun _ _ s k => r.mono s k, fun b h => (r.live b h).1⟩
theorem Ra.mono {G : Gc} {Hs H Hs' H' : Hp} {σ : L2.St} (s : Same Hs Hs') : ∀ {vs : List V} {as : List AV} {f : Fp}, Ra G Hs H σ vs as f → (∀ b, f b ≠ 0 → H' b = H b ∧ Hs' b = none) → Ra G Hs' H' σ vs as f
  | _, _, _, .nil z, _ => .nil z
  | _, _, _, .d r rs e, k => .d (r.mono s fun b hb => k b (by rw [e b]; omega)) (Ra.mono s rs fun b hb => k b (by rw [e b]; omega)) e
  | _, _, _, .io h rs, k => .io h (Ra.mono s rs k)
theorem Ra.live {G : Gc} {Hs H : Hp} {σ : L2.St} : ∀ {vs : List V} {as : List AV} {f : Fp}, Ra G Hs H σ vs as f → ∀ b, f b ≠ 0 → H b ≠ none ∧ Hs b = none
  | _, _, _, .nil z, b, hb => absurd (z b) hb
  | _, _, _, .d (f := f1) r rs e, b, hb => by
    by_cases h1 : f1 b = 0
    · exact Ra.live rs b (by rw [e b, h1] at hb; simpa using hb)
    · exact r.live b h1
  | _, _, _, .io _ rs, b, hb => Ra.live rs b hb
theorem Held.ra {v : List V} {d : List AV} (r : Ra G Hs H σ v d fv) : Held (fun Hs H => Ra G Hs H σ v d fv) fv Hs H := ⟨r, fun _ _ s k => r.mono s k, fun b h => (r.live b h).1⟩
end

section
variable {C : Cc} {W : WX} {Hs H Hs' H' : Hp} {σ : L2.St} {e : En} {fe fx fv : Fp} {P : Addr → Prop}
theorem Ok.holdR {R : Hp → Hp → Prop} (o : Ok C Hs H σ e fe fv P) (r : Held R fv Hs H) : Ok C Hs H σ e fe f0 (fun b => P b ∨ fv b ≠ 0) :=
  ⟨⟨o.wf.sm, fun b => by have := o.wf.one b; simp only [f0] at *; omega, fun b hb => o.wf.own b (by simp only [f0] at *; omega), fun b hb => by
      rcases hb with hb | hb
      · have := o.wf.apart b hb; simp only [f0] at *; omega
      · have := o.wf.one b; simp only [f0] at *; omega, fun b hb => by
      rcases hb with hb | hb
      · exact o.wf.live b hb
      · exact r.live b hb⟩, o.sl, o.pn, o.ex⟩
theorem Held.on {R : Hp → Hp → Prop} (r : Held R fv Hs H) (o : Ok C Hs H σ e fe fv P) {Q : Addr → Prop} (a : Aft Hs H Hs' H' (fun b => Q b ∨ fv b ≠ 0)) : R Hs' H' := by
  refine r.stay Hs' H' a.sh fun b hb => ⟨(a.keep b (.inr hb)).1, ?_⟩
  rw [(a.keep b (.inr hb)).2]
  exact o.wf.own b (by omega)

theorem XcK.shift {x : Exc} {e' : En} (h : XcK C W Hs H P σ x e') (a : Aft Hs H Hs' H' P) : XcK C W Hs' H' P σ x e' :=
  fun dd H2s H2 fe' b ok ex => h dd H2s H2 fe' (a.trans b) ok ex
theorem XcK.unhold {x : Exc} {e' : En} (h : XcK C W Hs H P σ x e') {Q : Addr → Prop} (q : ∀ b, P b → Q b) : XcK C W Hs H Q σ x e' :=
  fun dd H2s H2 fe' b ok ex => h dd H2s H2 fe' (b.weak q) ⟨⟨ok.wf.sm, ok.wf.one, ok.wf.own, fun b hb => ok.wf.apart b (q b hb), fun b hb => ok.wf.live b (q b hb)⟩, ok.sl, ok.pn, ok.ex⟩ ex
theorem EndE.shift {r : Rs D} {Q : VK} (h : EndE C W r Hs H P σ Q) (a : Aft Hs H Hs' H' P) : EndE C W r Hs' H' P σ Q := by
  cases r with
  | bad => exact h
  | ok d e' => exact fun v H2s H2 fe' fv b ok r => h v H2s H2 fe' fv (a.trans b) ok r
  | exc x e' => exact XcK.shift h a
theorem EndT.shift {r : Rs Bool} {Q : Bool → Hp → Prop} (h : EndT C W r Hs H P σ Q) (a : Aft Hs H Hs' H' P) : EndT C W r Hs' H' P σ Q := by
  cases r with
  | bad => exact h
  | ok d e' => exact fun H2s H2 fe' b ok => h H2s H2 fe' (a.trans b) ok
  | exc x e' => exact XcK.shift h a
theorem EndA.shift {r : Rs (List AV)} {Q : List V → Hp → Prop} (h : EndA C W r Hs H P σ Q) (a : Aft Hs H Hs' H' P) : EndA C W r Hs' H' P σ Q := by
  cases r with
  | bad => exact h
  | ok d e' => exact fun v H2s H2 fe' fv b ok r => h v H2s H2 fe' fv (a.trans b) ok r
  | exc x e' => exact XcK.shift h a
theorem EndS.shift {r : So} {N : Ends} (h : EndS C W r Hs H P N) (a : Aft Hs H Hs' H' P) : EndS C W r Hs' H' P N := by
  cases r with
  | bad => exact h
  | nx e' => exact fun s H2s H2 fe' b ok => h s H2s H2 fe' (a.trans b) ok
  | bk e' => exact fun s H2s H2 fe' b ok => h s H2s H2 fe' (a.trans b) ok
  | ct e' => exact fun s H2s H2 fe' b ok => h s H2s H2 fe' (a.trans b) ok
  | rt d e' => exact fun v s H2s H2 fe' fv b ok r => h v s H2s H2 fe' fv (a.trans b) ok r
  | exc x e' => exact fun dd s H2s H2 fe' b ok ex => h dd s H2s H2 fe' (a.trans b) ok ex

/-- an answer that goes on to Z -/
def EndZ {α : Type} (C : Cc) (W : WX) (r : Rs α) (Hs H : Hp) (P : Addr → Prop) (σ : L2.St) (Z : α → En → Prop) : Prop := match r with
  | .bad => False
  | .ok d e' => Z d e'
  | .exc x e' => XcK C W Hs H P σ x e'
theorem EndE.bind {α : Type} {r : Rs α} {k : α → En → Rs D} {Q : VK} (h : EndE C W (r.bind k) Hs H P σ Q) : EndZ C W r Hs H P σ fun d e' => EndE C W (k d e') Hs H P σ Q := by
  cases r <;> exact h
theorem EndT.bind {α : Type} {r : Rs α} {k : α → En → Rs Bool} {Q : Bool → Hp → Prop} (h : EndT C W (r.bind k) Hs H P σ Q) : EndZ C W r Hs H P σ fun d e' => EndT C W (k d e') Hs H P σ Q := by
  cases r <;> exact h
theorem EndA.bind {α : Type} {r : Rs α} {k : α → En → Rs (List AV)} {Q : List V → Hp → Prop} (h : EndA C W (r.bind k) Hs H P σ Q) : EndZ C W r Hs H P σ fun d e' => EndA C W (k d e') Hs H P σ Q := by
  cases r <;> exact h
def Rs.toS {α : Type} (r : Rs α) (k : α → En → So) : So := match r with
  | .bad => .bad
  | .ok a e => k a e
  | .exc x e => .exc x e
theorem EndS.bind {α : Type} {r : Rs α} {k : α → En → So} {N : Ends} (h : EndS C W (r.toS k) Hs H P N) (σ : L2.St) : EndZ C W r Hs H P σ fun d e' => EndS C W (k d e') Hs H P N := by
  cases r with
  | bad => exact h
  | ok d e' => exact h
  | exc x e' => exact fun dd H2s H2 fe' b ok ex => h dd σ H2s H2 fe' b ok ex

/-- the next expression, R held -/
theorem bindE {R : Hp → Hp → Prop} {b : FE} {Z : D → En → Prop} {T : VK} (ok : Ok C Hs H σ e fe fv P) (hR : Held R fv Hs H) (h : EndZ C W (b e) Hs H P σ Z)
    (hk : ∀ d2 e2 v2 Hs2 H2 fe2 fv2, Aft Hs H Hs2 H2 (fun b => P b ∨ fv b ≠ 0) → Ok C Hs2 H2 σ e2 fe2 (fun b => fv b + fv2 b) P → R Hs2 H2 → Rp C.toGc Hs2 H2 v2 d2 fv2 → Z d2 e2 → T v2 H2) : canE C W b σ H T := by
  refine ⟨e, Hs, fe, _, ok.holdR hR, ?_⟩
  unfold EndZ at h
  unfold EndE
  generalize b e = re at h ⊢
  cases re with
  | bad => exact h
  | exc x e' => exact XcK.unhold h fun b hb => .inl hb
  | ok d e' =>
    intro v2 Hs2 H2 fe2 fv2 a ok2 r2
    exact hk d e' v2 Hs2 H2 fe2 fv2 a (ok2.back (fun b => by have := ok.wf.one b; omega) (fun b hb => by have := ok.wf.apart b hb; omega) (fun b hb => ok.wf.own b (by omega)) a) (hR.on ok a) r2 h
theorem bindT {R : Hp → Hp → Prop} {b : FT} {Z : Bool → En → Prop} {T : Bool → Hp → Prop} (ok : Ok C Hs H σ e fe fv P) (hR : Held R fv Hs H) (h : EndZ C W (b e) Hs H P σ Z)
    (hk : ∀ d2 e2 Hs2 H2 fe2, Aft Hs H Hs2 H2 (fun b => P b ∨ fv b ≠ 0) → Ok C Hs2 H2 σ e2 fe2 fv P → R Hs2 H2 → Z d2 e2 → T d2 H2) : canT C W b σ H T := by
  refine ⟨e, Hs, fe, _, ok.holdR hR, ?_⟩
  unfold EndZ at h
  unfold EndT
  generalize b e = re at h ⊢
  cases re with
  | bad => exact h
  | exc x e' => exact XcK.unhold h fun b hb => .inl hb
  | ok d e' =>
    intro Hs2 H2 fe2 a ok2
    exact hk d e' Hs2 H2 fe2 a ((ok2.back (fun b => by have := ok.wf.one b; omega) (fun b hb => by have := ok.wf.apart b hb; omega) (fun b hb => ok.wf.own b (by omega)) a).fps (fun _ => rfl) fun b => rfl) (hR.on ok a) h
theorem bindA {R : Hp → Hp → Prop} {b : FA} {Z : List AV → En → Prop} {T : List V → Hp → Prop} (ok : Ok C Hs H σ e fe fv P) (hR : Held R fv Hs H) (h : EndZ C W (b e) Hs H P σ Z)
    (hk : ∀ d2 e2 v2 Hs2 H2 fe2 fv2, Aft Hs H Hs2 H2 (fun b => P b ∨ fv b ≠ 0) → Ok C Hs2 H2 σ e2 fe2 (fun b => fv b + fv2 b) P → R Hs2 H2 → Ra C.toGc Hs2 H2 σ v2 d2 fv2 → Z d2 e2 → T v2 H2) : canA C W b σ H T := by
  refine ⟨e, Hs, fe, _, ok.holdR hR, ?_⟩
  unfold EndZ at h
  unfold EndA
  generalize b e = re at h ⊢
  cases re with
  | bad => exact h
  | exc x e' => exact XcK.unhold h fun b hb => .inl hb
  | ok d e' =>
    intro v2 Hs2 H2 fe2 fv2 a ok2 r2
    exact hk d e' v2 Hs2 H2 fe2 fv2 a (ok2.back (fun b => by have := ok.wf.one b; omega) (fun b hb => by have := ok.wf.apart b hb; omega) (fun b hb => ok.wf.own b (by omega)) a) (hR.on ok a) r2 h
/-- the first one: nothing is held -/
theorem firstE {b : FE} {Z : D → En → Prop} {T : VK} (ok : Ok C Hs H σ e fe f0 P) (h : EndZ C W (b e) Hs H P σ Z)
    (hk : ∀ d2 e2 v2 Hs2 H2 fe2 fv2, Aft Hs H Hs2 H2 P → Ok C Hs2 H2 σ e2 fe2 fv2 P → Rp C.toGc Hs2 H2 v2 d2 fv2 → Z d2 e2 → T v2 H2) : canE C W b σ H T :=
  bindE ok Held.tr h fun d2 e2 v2 Hs2 H2 fe2 fv2 a ok2 _ r2 z => hk d2 e2 v2 Hs2 H2 fe2 fv2 (a.weak fun b hb => .inl hb) (ok2.fps (fun _ => rfl) fun b => (Nat.zero_add _).symm) r2 z
theorem firstT {b : FT} {Z : Bool → En → Prop} {T : Bool → Hp → Prop} (ok : Ok C Hs H σ e fe f0 P) (h : EndZ C W (b e) Hs H P σ Z)
    (hk : ∀ d2 e2 Hs2 H2 fe2, Aft Hs H Hs2 H2 P → Ok C Hs2 H2 σ e2 fe2 f0 P → Z d2 e2 → T d2 H2) : canT C W b σ H T :=
  bindT ok Held.tr h fun d2 e2 Hs2 H2 fe2 a ok2 _ z => hk d2 e2 Hs2 H2 fe2 (a.weak fun b hb => .inl hb) ok2 z
theorem firstA {b : FA} {Z : List AV → En → Prop} {T : List V → Hp → Prop} (ok : Ok C Hs H σ e fe f0 P) (h : EndZ C W (b e) Hs H P σ Z)
    (hk : ∀ d2 e2 v2 Hs2 H2 fe2 fv2, Aft Hs H Hs2 H2 P → Ok C Hs2 H2 σ e2 fe2 fv2 P → Ra C.toGc Hs2 H2 σ v2 d2 fv2 → Z d2 e2 → T v2 H2) : canA C W b σ H T :=
  bindA ok Held.tr h fun d2 e2 v2 Hs2 H2 fe2 fv2 a ok2 _ r2 z => hk d2 e2 v2 Hs2 H2 fe2 fv2 (a.weak fun b hb => .inl hb) (ok2.fps (fun _ => rfl) fun b => (Nat.zero_add _).symm) r2 z

/-! ### new things -/
structure New (Hs H Hs' H' : Hp) (fv : Fp) : Prop where
  sh : Same Hs Hs'
  keep : ∀ b, H b ≠ none → H' b = H b ∧ Hs' b = Hs b
  mono : ∀ b, H' b = none → H b = none
  sm : Sm Hs' H'
  one : ∀ b, fv b ≤ 1
  own : ∀ b, fv b ≠ 0 → H b = none ∧ Hs' b = none
theorem New.refl (s : Sm Hs H) : New Hs H Hs H f0 := ⟨Same.refl _, fun _ _ => ⟨rfl, rfl⟩, fun _ h => h, s, fun _ => Nat.zero_le _, fun _ h => absurd rfl h⟩
theorem Ok.new (o : Ok C Hs H σ e fe fx P) (n : New Hs H Hs' H' fv) (hx : ∀ b, fx b ≠ 0 → H b ≠ none) : Ok C Hs' H' σ e fe (fun b => fx b + fv b) P := by
  have lv : ∀ b, fe b + fx b ≠ 0 → H b ≠ none := fun b hb => by
    by_cases z : fe b = 0
    · exact hx b (by omega)
    · exact (o.sl.live b z).1
  refine ⟨⟨n.sm, fun b => ?_, fun b hb => ?_, fun b hb => ?_, fun b hb z => o.wf.live b hb (n.mono b z)⟩, o.sl.mono n.sh fun b hb => ⟨(n.keep b (o.sl.live b hb).1).1, ?_⟩, o.pn, o.ex.mono n.sh⟩
  · have := o.wf.one b; have := n.one b
    by_cases z : fv b = 0
    · omega
    · have h1 := (n.own b z).1
      by_cases z2 : fe b + fx b = 0
      · omega
      · exact absurd h1 (lv b z2)
  · by_cases z2 : fe b + fx b = 0
    · exact (n.own b (by omega)).2
    · rw [(n.keep b (lv b z2)).2]; exact o.wf.own b z2
  · have h1 := o.wf.apart b hb
    by_cases z : fv b = 0
    · omega
    · exact absurd (n.own b z).1 (o.wf.live b hb)
  · rw [(n.keep b (o.sl.live b hb).1).2]; exact (o.sl.live b hb).2
theorem New.aft (o : Ok C Hs H σ e fe fx P) (n : New Hs H Hs' H' fv) : Aft Hs H Hs' H' P := ⟨n.sh, fun b hb => n.keep b (o.wf.live b hb), n.mono⟩
/-- a new object that is owned -/
theorem New.obj {p : Addr} {o : HO} (s : Sm Hs H) (hp : H p = none) : New Hs H Hs (upd H p o) (fun b => if b = p then 1 else 0) := by
  refine ⟨Same.refl _, fun b hb => ⟨upd_ne fun z => hb (z ▸ hp), rfl⟩, fun b hb => ?_, fun a u ha => ?_, fun b => by split <;> omega, fun b hb => ?_⟩
  · by_cases z : b = p
    · rw [z]; exact hp
    · rw [upd_ne z] at hb; exact hb
  · have z : a ≠ p := fun z => by
      have := s.live (z ▸ hp)
      rw [ha] at this; cases this
    rw [upd_ne z]; exact s a u ha
  · have z : b = p := by
      by_cases z : b = p
      · exact z
      · rw [if_neg z] at hb; exact absurd rfl hb
    rw [z]; exact ⟨hp, s.live hp⟩
/-- a new object that is frozen at once -/
theorem New.mkS {p : Addr} {o : HO} (s : Sm Hs H) (hp : H p = none) : New Hs H (upd Hs p o) (upd H p o) f0 := by
  have hs := s.live hp
  refine ⟨fun a u ha => ?_, fun b hb => ?_, fun b hb => ?_, fun a u ha => ?_, fun b => Nat.zero_le _, fun b hb => absurd rfl hb⟩
  · rw [upd_ne fun z => by rw [z, hs] at ha; cases ha]; exact ha
  · have z : b ≠ p := fun z => hb (z ▸ hp)
    exact ⟨upd_ne z, upd_ne z⟩
  · by_cases z : b = p
    · rw [z]; exact hp
    · rw [upd_ne z] at hb; exact hb
  · by_cases z : a = p
    · rw [z, upd_same] at ha
      rw [z, upd_same]; exact .inl ha
    · rw [upd_ne z] at ha
      rw [upd_ne z]; exact s a u ha
end

/-! ### operations on values -/
/-- r serves the operation g on frozen data -/
def OpS (G : Gc) (r : R2) (g : D → D → Option D) : Prop := ∀ {Hs H : Hp} {v1 v2 : V} {d1 d2 z : D} {Q : VK}, Sm Hs H → Rp G Hs H v1 d1 f0 → Rp G Hs H v2 d2 f0 → g d1 d2 = some z →
  (∀ v Hs' H' fv, New Hs H Hs' H' fv → Rp G Hs' H' v z fv → Q v H') → r v1 v2 H Q
def UnS (G : Gc) (r : V → Hp → VK → Prop) (g : D → Option D) : Prop := ∀ {Hs H : Hp} {v1 : V} {d1 z : D} {Q : VK}, Sm Hs H → Rp G Hs H v1 d1 f0 → g d1 = some z →
  (∀ v Hs' H' fv, New Hs H Hs' H' fv → Rp G Hs' H' v z fv → Q v H') → r v1 H Q
def CallS (G : Gc) (r : List V → Hp → VK → Prop) (g : List D → Option D) : Prop := ∀ {Hs H : Hp} {vs : List V} {ds : List D} {z : D} {Q : VK}, Sm Hs H → Rps G Hs H vs ds f0 → g ds = some z →
  (∀ v Hs' H' fv, New Hs H Hs' H' fv → Rp G Hs' H' v z fv → Q v H') → r vs H Q

def eC (d : D) : FE := fun e => .ok d e
def eN (i : Nat) : FE := fun e => match e.sl[i]? with
  | some (some d) => .ok (frz d) { e with sl := e.sl.set i (some (frz d)) }
  | _ => .bad
def eBin (g : D → D → Option D) (a b : FE) : FE := fun e => (a e).bind fun x e1 => (b e1).bind fun y e2 => .opt (g (frz x) (frz y)) e2
def eUn (g : D → Option D) (a : FE) : FE := fun e => (a e).bind fun x e1 => .opt (g (frz x)) e1
def tTst (a : FE) : FT := fun e => (a e).bind fun x e1 => match x with
  | .bl b => .ok b e1
  | _ => .bad
def tNt (a : FT) : FT := fun e => (a e).bind fun b e1 => .ok (!b) e1
def tAnd (a b : FT) : FT := fun e => (a e).bind fun k e1 => if k then b e1 else .ok false e1
def tOr (a b : FT) : FT := fun e => (a e).bind fun k e1 => if k then .ok true e1 else b e1
def eAnd (a b : FE) : FE := fun e => (a e).bind fun x e1 => match x with
  | .bl k => if k then b e1 else .ok (.bl false) e1
  | _ => .bad
def eOr (a b : FE) : FE := fun e => (a e).bind fun x e1 => match x with
  | .bl k => if k then .ok (.bl true) e1 else b e1
  | _ => .bad
def eNot (a : FE) : FE := fun e => (a e).bind fun x e1 => match x with
  | .bl k => .ok (.bl (!k)) e1
  | _ => .bad
def eIf (c : FT) (a b : FE) : FE := fun e => (c e).bind fun k e1 => if k then a e1 else b e1

section
variable {X : Cx} {C : Cc} {W : WX} {pos : Pos} {a b c : Expr} {Fa Fb Fc : FE} {Ta Tb Tc : FT}

/-- a value at hand is frozen -/
theorem Ok.frzX {Hs H : Hp} {σ : L2.St} {e : En} {fe fv fx : Fp} {P : Addr → Prop} {v : V} {d : D} (o : Ok C Hs H σ e fe (fun b => fv b + fx b) P) (r : Rp C.toGc Hs H v d fv)
    {R : Hp → Hp → Prop} (hR : Held R fx Hs H) : ∃ Hs', Aft Hs H Hs' H P ∧ Ok C Hs' H σ e fe fx P ∧ Rp C.toGc Hs' H v (frz d) f0 ∧ R Hs' H := by
  obtain ⟨Hs', a, ok, rp, he⟩ := o.freeze r
  refine ⟨Hs', a, ok, rp, hR.stay Hs' H a.sh fun b hb => ⟨rfl, ?_⟩⟩
  have := o.wf.one b
  rw [he b, if_neg (by omega)]
  exact o.wf.own b (by omega)
theorem be_c {d : D} {v : V} (h : PE X a (tC v)) (r : ∀ Hs H, Rp C.toGc Hs H v d f0) : BE X C W a (eC d) := h.imp fun σ H Q ⟨e, Hs, fe, P, ok, q⟩ =>
  q v Hs H fe f0 (Aft.refl _ _ _) ok (r Hs H)
theorem be_int {i j} : BE X C W (.Constant (.int i) j pos) (eC (.int i)) := be_c pe_int fun _ _ => .int fun _ => rfl
theorem be_bl {k j} : BE X C W (.Constant (.bool k) j pos) (eC (.bl k)) := be_c pe_bl fun _ _ => .bl fun _ => rfl
theorem be_non {j} : BE X C W (.Constant .none j pos) (eC .non) := be_c pe_non fun _ _ => .non fun _ => rfl
theorem be_str {x j} : BE X C W (.Constant (.str x) j pos) (eC (.str x)) := be_c pe_str fun _ _ => .str fun _ => rfl
theorem be_name {i : Nat} (h : PE X a (tVar i)) : BE X C W a (eN i) := h.imp fun σ H Q ⟨e, Hs, fe, P, ok, q⟩ => by
  unfold EndE eN at q
  cases h1 : e.sl[i]? with
  | none => rw [h1] at q; exact q.elim
  | some o =>
    cases o with
    | none => rw [h1] at q; exact q.elim
    | some d =>
      rw [h1] at q
      obtain ⟨v, f1, f2, e1, r1, e2, s2⟩ := ok.sl.get h1
      have ok1 : Ok C Hs H σ { e with sl := e.sl.set i none } f2 (fun b => f1 b + f0 b) P := ⟨⟨ok.wf.sm, fun b => by have := ok.wf.one b; have := e2 b; simp only [f0] at *; omega, fun b hb => ok.wf.own b (by have := e2 b; simp only [f0] at *; omega),
        fun b hb => by have := ok.wf.apart b hb; have := e2 b; simp only [f0] at *; omega, ok.wf.live⟩, s2, ok.pn, ok.ex⟩
      obtain ⟨Hs', a', ok2, r2, _⟩ := ok1.frzX r1 Held.tr
      have hi : i < e.sl.length := (List.getElem?_eq_some_iff.mp h1).1
      have s3 : Sls C.toGc Hs' H (σ.set i (some v)) ((e.sl.set i none).set i (some (frz d))) f2 := ok2.sl.put (g := f0) (by rw [List.getElem?_set_self hi]) r2 fun b => (Nat.zero_add _).symm
      rw [List.set_set] at s3
      have e4 : σ.set i (some v) = σ := by
        obtain ⟨hl, hv⟩ := List.getElem?_eq_some_iff.mp e1
        rw [← hv]; exact List.set_getElem_self hl
      rw [e4] at s3
      exact ⟨v, e1, q v Hs' H f2 f0 a' ⟨ok2.wf, s3, ok2.pn, ok2.ex⟩ r2⟩

theorem be_bin {op : Operator} {r : R2} {g : D → D → Option D} (ho : OpR X (binaryOp op) r) (hs : OpS C.toGc r g) (ha : BE X C W a Fa) (hb : BE X C W b Fb) : BE X C W (.BinOp a op b pos) (eBin g Fa Fb) :=
  (pe_op ho ha hb).imp fun σ H Q ⟨e, Hs, fe, P, ok, q⟩ => by
    refine firstE ok q.bind fun d1 e1 v1 Hs1 H1 fe1 fv1 a1 ok1 r1 q1 => ?_
    refine bindE ok1 (.rp r1) (q1.shift a1).bind fun d2 e2 v2 Hs2 H2 fe2 fv2 a2 ok2 r1 r2 q2 => ?_
    obtain ⟨Hs3, a3, ok3, r1', r2'⟩ := ok2.frzX r1 (.rp r2)
    obtain ⟨Hs4, a4, ok4, r2'', r1''⟩ := (ok3.fps (fun _ => rfl) (fx' := fun b => fv2 b + f0 b) fun _ => rfl).frzX r2' (.rp r1')
    have q3 := (q2.shift (a2.weak fun b hb => .inl hb)).shift (a3.trans a4)
    cases hz : g (frz d1) (frz d2) with
    | none => rw [hz] at q3; exact q3.elim
    | some z =>
      rw [hz] at q3
      exact hs ok4.sm r1'' r2'' hz fun v Hs5 H5 fv n rz => q3 v Hs5 H5 fe2 fv (n.aft ok4) ((ok4.new n fun _ h => absurd rfl h).fps (fun _ => rfl) fun _ => (Nat.zero_add _).symm) rz
theorem be_cmp {op : CmpOp} {r : R2} {g : D → D → Option D} (ho : OpR X (compareOp op) r) (hs : OpS C.toGc r g) (hm : behindInMarks op b = false) (ha : BE X C W a Fa) (hb : BE X C W b Fb) : BE X C W (.Compare a [op] [b] pos) (eBin g Fa Fb) :=
  (pe_cmpR ho ha hb hm).imp fun σ H Q ⟨e, Hs, fe, P, ok, q⟩ => by
    refine firstE ok q.bind fun d1 e1 v1 Hs1 H1 fe1 fv1 a1 ok1 r1 q1 => ?_
    refine bindE ok1 (.rp r1) (q1.shift a1).bind fun d2 e2 v2 Hs2 H2 fe2 fv2 a2 ok2 r1 r2 q2 => ?_
    obtain ⟨Hs3, a3, ok3, r1', r2'⟩ := ok2.frzX r1 (.rp r2)
    obtain ⟨Hs4, a4, ok4, r2'', r1''⟩ := (ok3.fps (fun _ => rfl) (fx' := fun b => fv2 b + f0 b) fun _ => rfl).frzX r2' (.rp r1')
    have q3 := (q2.shift (a2.weak fun b hb => .inl hb)).shift (a3.trans a4)
    cases hz : g (frz d1) (frz d2) with
    | none => rw [hz] at q3; exact q3.elim
    | some z =>
      rw [hz] at q3
      exact hs ok4.sm r1'' r2'' hz fun v Hs5 H5 fv n rz => q3 v Hs5 H5 fe2 fv (n.aft ok4) ((ok4.new n fun _ h => absurd rfl h).fps (fun _ => rfl) fun _ => (Nat.zero_add _).symm) rz
theorem be_un {op : UnaryOp} {r : V → Hp → VK → Prop} {g : D → Option D} (ho : UnR X (unaryOp op) r) (hs : UnS C.toGc r g) (ha : BE X C W a Fa) : BE X C W (.UnaryOp op a pos) (eUn g Fa) :=
  (pe_un ho ha).imp fun σ H Q ⟨e, Hs, fe, P, ok, q⟩ => by
    refine firstE ok q.bind fun d1 e1 v1 Hs1 H1 fe1 fv1 a1 ok1 r1 q1 => ?_
    obtain ⟨Hs3, a3, ok3, r1', _⟩ := (ok1.fps (fun _ => rfl) (fx' := fun b => fv1 b + f0 b) fun _ => rfl).frzX r1 Held.tr
    have q3 := (q1.shift a1).shift a3
    cases hz : g (frz d1) with
    | none => rw [hz] at q3; exact q3.elim
    | some z =>
      rw [hz] at q3
      exact hs ok3.sm r1' hz fun v Hs5 H5 fv n rz => q3 v Hs5 H5 fe1 fv (n.aft ok3) ((ok3.new n fun _ h => absurd rfl h).fps (fun _ => rfl) fun _ => (Nat.zero_add _).symm) rz
/-- a test by an expression that gives a bool -/
theorem Rp.isBl {G : Gc} {Hs H : Hp} {v : V} {k : Bool} {f : Fp} (r : Rp G Hs H v (.bl k) f) : v = .bl k ∧ ∀ b, f b = 0 := by
  cases r with | bl z => exact ⟨rfl, z⟩
theorem bt_of {Z : TT} (hz : PT X a Z) (hi : ∀ σ H Q, (canE C W Fa σ H fun x H1 => ∃ k, x = .bl k ∧ Q k H1) → Z σ H Q) : BT X C W a (tTst Fa) := hz.imp fun σ H Q ⟨e, Hs, fe, P, ok, q⟩ => by
  refine hi σ H Q (firstE ok q.bind fun d1 e1 v1 Hs1 H1 fe1 fv1 a1 ok1 r1 q1 => ?_)
  cases d1 with
  | bl k =>
    obtain ⟨rfl, z⟩ := r1.isBl
    exact ⟨k, rfl, q1 Hs1 H1 fe1 a1 (ok1.fps (fun _ => rfl) fun b => (z b).symm)⟩
  | _ => exact q1.elim
theorem bt_cmp {op : CmpOp} {r : R2} {g : D → D → Option D} (ho : OpR X (compareOp op) r) (hs : OpS C.toGc r g) (hm : behindInMarks op b = false) (ha : BE X C W a Fa) (hb : BE X C W b Fb) : BT X C W (.Compare a [op] [b] pos) (tTst (eBin g Fa Fb)) := by
  refine bt_of (pt_cmpR ho ha hb hm) fun σ H Q h => ?_
  obtain ⟨e, Hs, fe, P, ok, q⟩ := h
  refine firstE ok q.bind fun d1 e1 v1 Hs1 H1 fe1 fv1 a1 ok1 r1 q1 => ?_
  refine bindE ok1 (.rp r1) (q1.shift a1).bind fun d2 e2 v2 Hs2 H2 fe2 fv2 a2 ok2 r1 r2 q2 => ?_
  obtain ⟨Hs3, a3, ok3, r1', r2'⟩ := ok2.frzX r1 (.rp r2)
  obtain ⟨Hs4, a4, ok4, r2'', r1''⟩ := (ok3.fps (fun _ => rfl) (fx' := fun b => fv2 b + f0 b) fun _ => rfl).frzX r2' (.rp r1')
  have q3 := (q2.shift (a2.weak fun b hb => .inl hb)).shift (a3.trans a4)
  cases hz : g (frz d1) (frz d2) with
  | none => rw [hz] at q3; exact q3.elim
  | some z =>
    rw [hz] at q3
    exact hs ok4.sm r1'' r2'' hz fun v Hs5 H5 fv n rz => q3 v Hs5 H5 fe2 fv (n.aft ok4) ((ok4.new n fun _ h => absurd rfl h).fps (fun _ => rfl) fun _ => (Nat.zero_add _).symm) rz
theorem bt_val (h : BE X C W a Fa) (he : ∀ whole, isTrue a X.env whole = (do let v ← whole; standAt a.pos; holding [v] (truthy v))) : BT X C W a (tTst Fa) :=
  bt_of (pt_val h he) fun σ H Q h => h
theorem bt_not (ha : BT X C W a Ta) : BT X C W (.UnaryOp .Not a pos) (tNt Ta) := (pt_not ha).imp fun σ H Q ⟨e, Hs, fe, P, ok, q⟩ => by
  refine firstT ok q.bind fun d1 e1 Hs1 H1 fe1 a1 ok1 q1 => ?_
  exact q1 Hs1 H1 fe1 a1 ok1
def BW (X : Cx) (C : Cc) (W : WX) (e : Expr) (F : FT) : Prop := PW X e (canT C W F)
theorem bt_w (h : BW X C W a Ta) : BT X C W a Ta := L2.PW.pt h
theorem bw_and1 (ha : BT X C W a Ta) : BW X C W (.BoolOp .And [a] pos) Ta := pw_and1 ha
theorem bw_or1 (ha : BT X C W a Ta) : BW X C W (.BoolOp .Or [a] pos) Ta := pw_or1 ha
theorem bw_and {rest : List Expr} (ha : BT X C W a Ta) (hb : BW X C W (.BoolOp .And (b :: rest) pos) Tb) : BW X C W (.BoolOp .And (a :: b :: rest) pos) (tAnd Ta Tb) := (pw_and ha hb).imp fun σ H Q ⟨e, Hs, fe, P, ok, q⟩ => by
  refine firstT ok q.bind fun d1 e1 Hs1 H1 fe1 a1 ok1 q1 => ?_
  cases d1 with
  | true => exact iteT ⟨e1, Hs1, fe1, P, ok1, q1.shift a1⟩
  | false => exact iteF (q1 Hs1 H1 fe1 a1 ok1)
theorem bw_or {rest : List Expr} (ha : BT X C W a Ta) (hb : BW X C W (.BoolOp .Or (b :: rest) pos) Tb) : BW X C W (.BoolOp .Or (a :: b :: rest) pos) (tOr Ta Tb) := (pw_or ha hb).imp fun σ H Q ⟨e, Hs, fe, P, ok, q⟩ => by
  refine firstT ok q.bind fun d1 e1 Hs1 H1 fe1 a1 ok1 q1 => ?_
  cases d1 with
  | false => exact iteF ⟨e1, Hs1, fe1, P, ok1, q1.shift a1⟩
  | true => exact iteT (q1 Hs1 H1 fe1 a1 ok1)
theorem be_one {op} (h : BE X C W a Fa) : BE X C W (.BoolOp op [a] pos) Fa := pe_one h
theorem be_and {rest : List Expr} (ha : BE X C W a Fa) (hb : BE X C W (.BoolOp .And (b :: rest) pos) Fb) : BE X C W (.BoolOp .And (a :: b :: rest) pos) (eAnd Fa Fb) := (pe_and ha hb).imp fun σ H Q ⟨e, Hs, fe, P, ok, q⟩ => by
  refine firstE ok q.bind fun d1 e1 v1 Hs1 H1 fe1 fv1 a1 ok1 r1 q1 => ?_
  cases d1 with
  | bl k =>
    obtain ⟨rfl, z⟩ := r1.isBl
    have ok2 := ok1.fps (fe' := fe1) (fx' := f0) (fun _ => rfl) fun b => (z b).symm
    refine ⟨k, rfl, ?_⟩
    cases k with
    | true => exact iteT ⟨e1, Hs1, fe1, P, ok2, q1.shift a1⟩
    | false => exact iteF (q1 _ Hs1 H1 fe1 f0 a1 ok2 (.bl fun _ => rfl))
  | _ => exact q1.elim
theorem be_or {rest : List Expr} (ha : BE X C W a Fa) (hb : BE X C W (.BoolOp .Or (b :: rest) pos) Fb) : BE X C W (.BoolOp .Or (a :: b :: rest) pos) (eOr Fa Fb) := (pe_or ha hb).imp fun σ H Q ⟨e, Hs, fe, P, ok, q⟩ => by
  refine firstE ok q.bind fun d1 e1 v1 Hs1 H1 fe1 fv1 a1 ok1 r1 q1 => ?_
  cases d1 with
  | bl k =>
    obtain ⟨rfl, z⟩ := r1.isBl
    have ok2 := ok1.fps (fe' := fe1) (fx' := f0) (fun _ => rfl) fun b => (z b).symm
    refine ⟨k, rfl, ?_⟩
    cases k with
    | false => exact iteF ⟨e1, Hs1, fe1, P, ok2, q1.shift a1⟩
    | true => exact iteT (q1 _ Hs1 H1 fe1 f0 a1 ok2 (.bl fun _ => rfl))
  | _ => exact q1.elim
theorem be_not (ha : BE X C W a Fa) : BE X C W (.UnaryOp .Not a pos) (eNot Fa) := (pe_not ha).imp fun σ H Q ⟨e, Hs, fe, P, ok, q⟩ => by
  refine firstE ok q.bind fun d1 e1 v1 Hs1 H1 fe1 fv1 a1 ok1 r1 q1 => ?_
  cases d1 with
  | bl k =>
    obtain ⟨rfl, z⟩ := r1.isBl
    have ok2 := ok1.fps (fe' := fe1) (fx' := f0) (fun _ => rfl) fun b => (z b).symm
    exact ⟨k, rfl, q1 _ Hs1 H1 fe1 f0 a1 ok2 (.bl fun _ => rfl)⟩
  | _ => exact q1.elim
theorem be_if (hc : BT X C W c Tc) (ha : BE X C W a Fa) (hb : BE X C W b Fb) : BE X C W (.IfExp c a b pos) (eIf Tc Fa Fb) := (pe_ifExp hc ha hb).imp fun σ H Q ⟨e, Hs, fe, P, ok, q⟩ => by
  refine firstT ok q.bind fun d1 e1 Hs1 H1 fe1 a1 ok1 q1 => ?_
  cases d1 with
  | true => exact iteT ⟨e1, Hs1, fe1, P, ok1, q1.shift a1⟩
  | false => exact iteF ⟨e1, Hs1, fe1, P, ok1, q1.shift a1⟩
end
end Bx

set_option Elab.async false
set_option linter.all false
set_option maxRecDepth 100000
set_option maxHeartbeats 1000000
/-! Operations on data. -/
namespace Bx
open PySem L2

/-- a list's or a tuple's items -/
def D.seq : D → Option (Bool × List D)
  | .nd .lst _ xs => some (true, xs)
  | .nd .wl _ xs => some (true, xs)
  | .nd .tup _ xs => some (false, xs)
  | .nd .wt _ xs => some (false, xs)
  | _ => none
def lim : Nat := 16000000
theorem lim_le {n : Nat} (h : n ≤ lim) : n ≤ sizeLine := Nat.le_trans h (by rw [sizeLine_eq]; decide)
theorem lim_lt {n : Nat} (h : n ≤ lim) : n < sizeLine := Nat.lt_of_le_of_lt h (by rw [sizeLine_eq]; decide)
section
variable {G : Gc} {Hs H : Hp} {v : V} {d : D} {f : Fp}
theorem sm_lst {a : Addr} {vs : List V} (s : Sm Hs H) (h : Hs a = some (.lst vs)) : H a = some (.lst vs) := by
  rcases s _ _ h with h | ⟨z, _⟩
  · exact h
  · exact z.elim
theorem sm_tup {a : Addr} {vs : List V} (s : Sm Hs H) (h : Hs a = some (.tup vs)) : H a = some (.tup vs) := by
  rcases s _ _ h with h | ⟨z, _⟩
  · exact h
  · exact z.elim
theorem sm_ins {a C dx : Addr} {fs : List (Str × V)} (s : Sm Hs H) (h : Hs a = some (.ins C dx fs)) : H a = some (.ins C dx fs) := by
  rcases s _ _ h with h | ⟨z, _⟩
  · exact h
  · exact z.elim
/-- how a node stands in the heap itself -/
def AtR (G : Gc) (Hs H : Hp) (a : Addr) (k : Kd) (vs : List V) (o : Bool) : Prop := At G H a k vs ∨ (At G Hs a k vs ∧ Hs a ≠ none ∧ o = false) ∨ (k.ow = false ∧ At G H a k vs)
theorem AtR.sh {a : Addr} {k : Kd} {vs : List V} (s : Sm Hs H) (h : At G Hs a k vs) : AtR G Hs H a k vs false := by
  cases k with
  | lst => exact .inl (sm_lst s h)
  | tup => exact .inl (sm_tup s h)
  | wl => exact .inl (s.sqL h)
  | wt => exact .inl (s.sqT h)
  | dk ks => exact .inr (.inl ⟨h, (fun z => by rw [h.2] at z; cases z), rfl⟩)
  | dt ks => exact .inr (.inl ⟨h, (fun z => by rw [h.2] at z; cases z), rfl⟩)
  | ins c fn => obtain ⟨h1, dx, h2⟩ := h; exact .inl ⟨h1, dx, sm_ins s h2⟩
theorem Rp.nd {k : Kd} {o : Bool} {xs : List D} (s : Sm Hs H) (r : Rp G Hs H v (.nd k o xs) f) :
    ∃ a vs g, v = .ref a ∧ Rps G Hs H vs xs g ∧ (∀ b, g b ≤ f b) ∧ AtR G Hs H a k vs o := by
  cases r with
  | @sh a _ vs _ _ h r z => exact ⟨a, vs, f, rfl, r, fun b => Nat.le_refl _, .sh s h⟩
  | @own a _ vs _ g _ h w n r e => exact ⟨a, vs, g, rfl, r, fun b => by rw [e b]; omega, .inl h⟩
theorem Rp.seq {b : Bool} {xs : List D} (s : Sm Hs H) (r : Rp G Hs H v d f) (h : d.seq = some (b, xs)) :
    ∃ a vs g, v = .ref a ∧ (b = true → SqL G.K H a vs) ∧ (b = false → SqT G.K H a vs) ∧ Rps G Hs H vs xs g ∧ ∀ b, g b ≤ f b := by
  cases d with
  | nd k o ys =>
    obtain ⟨a, vs, g, e, rs, le, at_⟩ := r.nd s
    cases k with
    | lst =>
      cases h
      have hh : H a = some (.lst vs) := by
        rcases at_ with h | ⟨h, _⟩ | ⟨h, _⟩
        · exact h
        · exact sm_lst s h
        · cases h
      exact ⟨a, vs, g, e, fun _ => SqL.of hh, (fun z => nomatch z), rs, le⟩
    | wl =>
      cases h
      have hh : SqL G.K H a vs := by
        rcases at_ with h | ⟨h, _⟩ | ⟨_, h⟩
        · exact h
        · exact s.sqL h
        · exact h
      exact ⟨a, vs, g, e, fun _ => hh, (fun z => nomatch z), rs, le⟩
    | tup =>
      cases h
      have hh : H a = some (.tup vs) := by
        rcases at_ with h | ⟨h, _⟩ | ⟨h, _⟩
        · exact h
        · exact sm_tup s h
        · cases h
      exact ⟨a, vs, g, e, (fun z => nomatch z), fun _ => SqT.of hh, rs, le⟩
    | wt =>
      cases h
      have hh : SqT G.K H a vs := by
        rcases at_ with h | ⟨h, _⟩ | ⟨_, h⟩
        · exact h
        · exact s.sqT h
        · exact h
      exact ⟨a, vs, g, e, (fun z => nomatch z), fun _ => hh, rs, le⟩
    | _ => cases h
  | _ => cases h
theorem Rp.lst {o : Bool} {xs : List D} (s : Sm Hs H) (r : Rp G Hs H v (.nd .lst o xs) f) : ∃ a vs g, v = .ref a ∧ H a = some (.lst vs) ∧ Rps G Hs H vs xs g ∧ ∀ b, g b ≤ f b := by
  obtain ⟨a, vs, g, e, rs, le, at_⟩ := r.nd s
  refine ⟨a, vs, g, e, ?_, rs, le⟩
  rcases at_ with h | ⟨h, _⟩ | ⟨h, _⟩
  · exact h
  · exact sm_lst s h
  · cases h
theorem Rp.toI {i : Int} (r : Rp G Hs H v (.int i) f) : v = .int i := by cases r; rfl
theorem Rp.toS {x : Str} (r : Rp G Hs H v (.str x) f) : v = .str x := by cases r; rfl
theorem Rp.toB {k : Bool} (r : Rp G Hs H v (.bl k) f) : v = .bl k := by cases r; rfl
theorem Rp.toN (r : Rp G Hs H v .non f) : v = .non := by cases r; rfl
theorem Rp.toT {n : String} (r : Rp G Hs H v (.ty n) f) : v = .ty n := by cases r; rfl
/-- a scalar -/
def D.sc : D → Bool
  | .nd _ _ _ => false
  | _ => true
theorem Rp.f0 (r : Rp G Hs H v d f) (h : d.sc = true) : Rp G Hs H v d f0 := by
  cases r with
  | non z => exact .non fun _ => rfl
  | bl z => exact .bl fun _ => rfl
  | int z => exact .int fun _ => rfl
  | str z => exact .str fun _ => rfl
  | ty z => exact .ty fun _ => rfl
  | sh _ _ _ => cases h
  | own _ _ _ _ _ => cases h
theorem r_int (i : Int) : Rp G Hs H (.int i) (.int i) Bx.f0 := .int fun _ => rfl
theorem r_bl (i : Bool) : Rp G Hs H (.bl i) (.bl i) Bx.f0 := .bl fun _ => rfl
theorem r_str (i : Str) : Rp G Hs H (.str i) (.str i) Bx.f0 := .str fun _ => rfl
theorem r_non : Rp G Hs H .non .non Bx.f0 := .non fun _ => rfl
theorem Rps.at {vs : List V} {ds : List D} {i : Nat} {d : D} (r : Rps G Hs H vs ds Bx.f0) (h : ds[i]? = some d) : ∃ v, vs[i]? = some v ∧ Rp G Hs H v d Bx.f0 := by
  obtain ⟨v, f1, f2, h1, h2, h3, _⟩ := r.get h
  exact ⟨v, h1, h2.fp fun b => by have := h3 b; simp only [Bx.f0] at *; omega⟩
theorem Rps.z {vs : List V} {ds : List D} {g : Fp} (r : Rps G Hs H vs ds g) (h : ∀ b, g b ≤ Bx.f0 b) : Rps G Hs H vs ds Bx.f0 := r.fp fun b => by have := h b; simp only [Bx.f0] at *; omega
theorem Rps.ints : ∀ {vs : List V} {ns : List Int} {g : Fp}, Rps G Hs H vs (ns.map D.int) g → vs = ns.map V.int
  | _, [], _, .nil _ => rfl
  | _, n :: ns, _, .cons r rs _ => by rw [r.toI, Rps.ints rs]; rfl
theorem Rps.bls : ∀ {vs : List V} {ns : List Bool} {g : Fp}, Rps G Hs H vs (ns.map D.bl) g → vs = ns.map V.bl
  | _, [], _, .nil _ => rfl
  | _, n :: ns, _, .cons r rs _ => by rw [r.toB, Rps.bls rs]; rfl
theorem newLst {p : Addr} {vs : List V} {xs : List D} {g : Fp} (s : Sm Hs H) (hp : H p = none) (r : Rps G Hs H vs xs g) (hg : ∀ b, g b ≠ 0 → b ≠ p) : Rp G Hs (upd H p (.lst vs)) (.ref p) (.nd .lst true xs) (fun b => g b + if b = p then 1 else 0) :=
  .own upd_same rfl (s.live hp) (r.mono (Same.refl _) fun b hb => ⟨upd_ne (hg b hb), (r.live b hb).2⟩) fun b => rfl
theorem newTup {p : Addr} {vs : List V} {xs : List D} (s : Sm Hs H) (hp : H p = none) (r : Rps G Hs H vs xs Bx.f0) : Rp G (upd Hs p (.tup vs)) (upd H p (.tup vs)) (.ref p) (.nd .tup false xs) Bx.f0 :=
  .sh upd_same (r.mono (New.mkS (o := .tup vs) s hp).sh fun b hb => absurd rfl hb) fun _ => rfl
end

/-! ### two-place operations -/
def addD : D → D → Option D
  | .int i, .int j => some (.int (i + j))
  | .str x, .str y => if x.length + y.length ≤ lim then some (.str (x ++ y)) else none
  | .nd .lst _ xs, .nd .lst _ ys => if xs.length + ys.length ≤ lim then some (.nd .lst true (xs ++ ys)) else none
  | .nd .tup _ xs, .nd .tup _ ys => if xs.length + ys.length ≤ lim ∧ xs ≠ [] ∧ ys ≠ [] then some (.nd .tup false (xs ++ ys)) else none
  | _, _ => none
def subD : D → D → Option D
  | .int i, .int j => some (.int (i - j))
  | _, _ => none
def mulOk (i j : Int) : Bool := decide (i.natAbs.log2 + j.natAbs.log2 < 1000000)
def mulD : D → D → Option D
  | .int i, .int j => if mulOk i j then some (.int (i * j)) else none
  | _, _ => none
def divD : D → D → Option D
  | .int i, .int j => if decide (0 < j) && decide (j.natAbs.log2 < 9000) then some (.int (i / j)) else none
  | _, _ => none
def modD : D → D → Option D
  | .int i, .int j => if decide (0 < j) then some (.int (i % j)) else none
  | _, _ => none
def powD : D → D → Option D
  | .int i, .int j => if decide (0 ≤ j) && decide (j ≤ 1000000) && decide (i.natAbs < 2 ^ 64) then some (.int (i ^ j.toNat)) else none
  | _, _ => none
def negD : D → Option D
  | .int i => some (.int (-i))
  | _ => none
def ltD : D → D → Option D
  | .int i, .int j => some (.bl (decide (i < j)))
  | _, _ => none
def leD : D → D → Option D
  | .int i, .int j => some (.bl (decide (i ≤ j)))
  | _, _ => none
def gtD : D → D → Option D
  | .int i, .int j => some (.bl (decide (j < i)))
  | _, _ => none
def geD : D → D → Option D
  | .int i, .int j => some (.bl (decide (j ≤ i)))
  | _, _ => none
def isD : D → D → Option D
  | .non, .non => some (.bl true)
  | .nd _ _ _, .non => some (.bl false)
  | .int _, .non => some (.bl false)
  | .str _, .non => some (.bl false)
  | .bl _, .non => some (.bl false)
  | _, _ => none
def isntD (a b : D) : Option D := match isD a b with
  | some (.bl k) => some (.bl (!k))
  | _ => none
mutual
def pyd : D → PyData
  | .non => .none | .bl b => .bool b | .int i => .int i | .str x => .str x | .ty _ => .dict []
  | .nd k _ xs => match k with
    | .lst => .list (pyds xs) | .wl => .list (pyds xs) | .tup => .tuple (pyds xs) | .wt => .tuple (pyds xs) | _ => .dict []
def pyds : List D → List PyData
  | [] => []
  | x :: xs => pyd x :: pyds xs
end
mutual
/-- data that == may look through -/
def eqOk : D → Bool
  | .ty _ => false
  | .nd k _ xs => (match k with
    | .lst => true | .wl => true | .tup => true | .wt => true | _ => false) && eqOks xs
  | _ => true
def eqOks : List D → Bool
  | [] => true
  | x :: xs => eqOk x && eqOks xs
end
def eqD (a b : D) : Option D := if eqOk a && eqOk b && SeqAt.shaped (pyd a) && SeqAt.shaped (pyd b) then some (.bl (PyData.eqv (pyd a) (pyd b))) else none
def neD (a b : D) : Option D := if eqOk a && eqOk b && SeqAt.shaped (pyd a) && SeqAt.shaped (pyd b) then some (.bl (!PyData.eqv (pyd a) (pyd b))) else none
def flatD : D → Bool
  | .nd _ _ _ => false
  | .ty _ => false
  | _ => true
def eqF : D → D → Bool
  | .non, .non => true
  | .bl a, .bl b => a == b
  | .bl a, .int b => (if a then 1 else 0) == b
  | .int a, .bl b => a == (if b then 1 else 0)
  | .int a, .int b => a == b
  | .str a, .str b => a == b
  | _, _ => false
/-- x in xs, xs a list or tuple of flat things; a text in a text -/
def inD (a b : D) : Option D := match b with
  | .str y => match a with
    | .str x => some (.bl (!(Builtin.Str.occurrences y x 0 y.length 1).isEmpty))
    | _ => none
  | _ => match b.seq with
    | some (_, xs) => if flatD a && xs.all flatD then some (.bl (xs.any fun y => eqF y a)) else none
    | none => none
def notInD (a b : D) : Option D := match inD a b with
  | some (.bl k) => some (.bl (!k))
  | _ => none

theorem OpR.or {X : Cx} {f : Value → Value → Sem Value} {r r' : R2} (h : OpR X f r) (h' : OpR X f r') : OpR X f (fun x y H Q => r x y H Q ∨ r' x y H Q) :=
  fun pins s σ H x y v u Q I rx ry q => q.elim (h pins s σ H x y v u Q I rx ry) (h' pins s σ H x y v u Q I rx ry)
theorem OpS.l {G : Gc} {r r' : R2} {g : D → D → Option D} (h : OpS G r g) : OpS G (fun x y H Q => r x y H Q ∨ r' x y H Q) g := fun s r1 r2 hz q => .inl (h s r1 r2 hz q)
section
variable {G : Gc}
/-- a scalar answer, the heap as it was -/
theorem res0 {Hs H : Hp} {Q : VK} {z : D} {v : V} (s : Sm Hs H) (q : ∀ v Hs' H' fv, New Hs H Hs' H' fv → Rp G Hs' H' v z fv → Q v H') (r : Rp G Hs H v z f0) : Q v H := q v Hs H f0 (New.refl s) r
theorem resLst {Hs H : Hp} {Q : VK} {vs : List V} {xs : List D} {p : Addr} (s : Sm Hs H) (q : ∀ v Hs' H' fv, New Hs H Hs' H' fv → Rp G Hs' H' v (.nd .lst true xs) fv → Q v H') (r : Rps G Hs H vs xs f0) (hp : H p = none) : Q (.ref p) (upd H p (.lst vs)) :=
  q _ _ _ _ (New.obj s hp) ((newLst s hp r fun b hb => absurd rfl hb).fp fun b => (Nat.zero_add _).symm)
theorem resTup {Hs H : Hp} {Q : VK} {vs : List V} {xs : List D} {p : Addr} (s : Sm Hs H) (q : ∀ v Hs' H' fv, New Hs H Hs' H' fv → Rp G Hs' H' v (.nd .tup false xs) fv → Q v H') (r : Rps G Hs H vs xs f0) (hp : H p = none) : Q (.ref p) (upd H p (.tup vs)) :=
  q _ _ _ _ (New.mkS s hp) (newTup s hp r)

def rAddStr : R2 := fun x y H Q => ∃ i j, x = V.str i ∧ y = V.str j ∧ i.length + j.length ≤ sizeLine ∧ Q (V.str (i ++ j)) H
def rAddA (K : PySem.W.Frag) : R2 := fun x y H Q => rI0 (fun i j => .int (i + j)) x y H Q ∨ (rAddStr x y H Q ∨ (rCat x y H Q ∨ rCatT K x y H Q))
theorem op_addA {X : Cx} : OpR X (binaryOp .Add) (rAddA X.K) := op_add.or (OpR.or op_add_str (OpR.or op_cat op_catT))
theorem iop_addA {X : Cx} : OpR X (inplaceOp .Add) (rI0 fun i j => .int (i + j)) := iop_add
theorem addS : OpS G (rAddA G.K) addD := by
  intro Hs H v1 v2 d1 d2 z Q s r1 r2 hz q
  unfold addD at hz
  split at hz
  · cases hz
    rw [r1.toI, r2.toI]
    exact .inl ⟨_, _, rfl, rfl, res0 s q (r_int _)⟩
  · split at hz
    · cases hz
      rename_i h
      rw [r1.toS, r2.toS]
      exact .inr (.inl ⟨_, _, rfl, rfl, lim_le h, res0 s q (r_str _)⟩)
    · cases hz
  · split at hz
    · cases hz
      rename_i h
      obtain ⟨a, vs, g, rfl, ha, rs, le⟩ := r1.lst s
      obtain ⟨b, ws, g', rfl, hb, rs', le'⟩ := r2.lst s
      refine .inr (.inr (.inl ⟨a, b, vs, ws, rfl, rfl, ha, hb, by rw [rs.len, rs'.len]; exact lim_le h, fun p hp => resLst s q ((rs.z le).app (rs'.z le') fun _ => rfl) hp⟩))
    · cases hz
  · split at hz
    · cases hz
      rename_i h
      obtain ⟨a, vs, g, rfl, _, ha, rs, le⟩ := r1.seq s rfl
      obtain ⟨b, ws, g', rfl, _, hb, rs', le'⟩ := r2.seq s rfl
      refine .inr (.inr (.inr ⟨a, b, vs, ws, rfl, rfl, ha rfl, hb rfl, fun z => h.2.1 (List.eq_nil_of_length_eq_zero (by rw [← rs.len, z]; rfl)), by rw [rs.len, rs'.len]; exact lim_le h.1,
        fun z => absurd (List.eq_nil_of_length_eq_zero (by rw [← rs'.len, z]; rfl)) h.2.2, fun _ p hp => resTup s q ((rs.z le).app (rs'.z le') fun _ => rfl) hp⟩))
    · cases hz
  · cases hz
theorem subS : OpS G (rI0 fun i j => .int (i - j)) subD := by
  intro Hs H v1 v2 d1 d2 z Q s r1 r2 hz q
  unfold subD at hz
  split at hz
  · cases hz
    rw [r1.toI, r2.toI]
    exact ⟨_, _, rfl, rfl, res0 s q (r_int _)⟩
  · cases hz
theorem mulS : OpS G (rI CMulW fun i j => .int (i * j)) mulD := by
  intro Hs H v1 v2 d1 d2 z Q s r1 r2 hz q
  unfold mulD at hz
  split at hz
  · split at hz
    · cases hz
      rename_i h
      rw [r1.toI, r2.toI]
      exact ⟨_, _, rfl, rfl, of_decide_eq_true (p := _ < 1000000) h, res0 s q (r_int _)⟩
    · cases hz
  · cases hz
theorem divS : OpS G (rI CDivW fun i j => .int (i / j)) divD := by
  intro Hs H v1 v2 d1 d2 z Q s r1 r2 hz q
  unfold divD at hz
  split at hz
  · split at hz
    · cases hz
      rename_i h
      rw [r1.toI, r2.toI]
      rw [Bool.and_eq_true] at h
      exact ⟨_, _, rfl, rfl, ⟨of_decide_eq_true h.1, of_decide_eq_true h.2⟩, res0 s q (r_int _)⟩
    · cases hz
  · cases hz
theorem modS : OpS G (rI (fun _ j => 0 < j) fun i j => .int (i % j)) modD := by
  intro Hs H v1 v2 d1 d2 z Q s r1 r2 hz q
  unfold modD at hz
  split at hz
  · split at hz
    · cases hz
      rename_i h
      rw [r1.toI, r2.toI]
      exact ⟨_, _, rfl, rfl, of_decide_eq_true h, res0 s q (r_int _)⟩
    · cases hz
  · cases hz
theorem powS : OpS G (rI CPow fun i j => .int (i ^ j.toNat)) powD := by
  intro Hs H v1 v2 d1 d2 z Q s r1 r2 hz q
  unfold powD at hz
  split at hz
  · split at hz
    · cases hz
      rename_i h
      rw [r1.toI, r2.toI]
      rw [Bool.and_eq_true, Bool.and_eq_true] at h
      exact ⟨_, _, rfl, rfl, ⟨of_decide_eq_true h.1.1, of_decide_eq_true h.1.2, of_decide_eq_true h.2⟩, res0 s q (r_int _)⟩
    · cases hz
  · cases hz
theorem negS : UnS G (rU fun i => .int (-i)) negD := by
  intro Hs H v1 d1 z Q s r1 hz q
  unfold negD at hz
  split at hz
  · cases hz
    rw [r1.toI]
    exact ⟨_, rfl, res0 s q (r_int _)⟩
  · cases hz
theorem ltS : OpS G (rI0 fun i j => .bl (decide (i < j))) ltD := by
  intro Hs H v1 v2 d1 d2 z Q s r1 r2 hz q
  unfold ltD at hz
  split at hz
  · cases hz
    rw [r1.toI, r2.toI]
    exact ⟨_, _, rfl, rfl, res0 s q (r_bl _)⟩
  · cases hz
theorem leS : OpS G (rI0 fun i j => .bl (decide (i ≤ j))) leD := by
  intro Hs H v1 v2 d1 d2 z Q s r1 r2 hz q
  unfold leD at hz
  split at hz
  · cases hz
    rw [r1.toI, r2.toI]
    exact ⟨_, _, rfl, rfl, res0 s q (r_bl _)⟩
  · cases hz
theorem gtS : OpS G (rI0 fun i j => .bl (decide (j < i))) gtD := by
  intro Hs H v1 v2 d1 d2 z Q s r1 r2 hz q
  unfold gtD at hz
  split at hz
  · cases hz
    rw [r1.toI, r2.toI]
    exact ⟨_, _, rfl, rfl, res0 s q (r_bl _)⟩
  · cases hz
theorem geS : OpS G (rI0 fun i j => .bl (decide (j ≤ i))) geD := by
  intro Hs H v1 v2 d1 d2 z Q s r1 r2 hz q
  unfold geD at hz
  split at hz
  · cases hz
    rw [r1.toI, r2.toI]
    exact ⟨_, _, rfl, rfl, res0 s q (r_bl _)⟩
  · cases hz
def isNonD : D → Bool
  | .non => true
  | _ => false
theorem isD_non {a b : D} {z : D} (h : isD a b = some z) : b = .non ∧ z = .bl (isNonD a) := by
  unfold isD at h
  split at h <;> cases h <;> exact ⟨rfl, rfl⟩
theorem Rp.isNon {Hs H : Hp} {v : V} {a : D} {f : Fp} (r : Rp G Hs H v a f) : decide (v = .non) = isNonD a := by
  cases r <;> rfl
theorem isS : OpS G (fun x y H Q => y = V.non ∧ Q (V.bl (decide (x = V.non))) H) isD := by
  intro Hs H v1 v2 d1 d2 z Q s r1 r2 hz q
  obtain ⟨rfl, rfl⟩ := isD_non hz
  refine ⟨r2.toN, ?_⟩
  rw [r1.isNon]
  exact res0 s q (r_bl _)
theorem isntS : OpS G (fun x y H Q => y = V.non ∧ Q (V.bl (!decide (x = V.non))) H) isntD := by
  intro Hs H v1 v2 d1 d2 z Q s r1 r2 hz q
  unfold isntD at hz
  split at hz
  · rename_i k he
    cases hz
    obtain ⟨rfl, hk⟩ := isD_non he
    refine ⟨r2.toN, ?_⟩
    rw [r1.isNon, ← D.bl.inj hk]
    exact res0 s q (r_bl _)
  · cases hz
mutual
theorem Rp.dp {Hs H : Hp} (s : Sm Hs H) {v : V} {d : D} {f : Fp} : Rp G Hs H v d f → eqOk d = true → Dp G.K H v (pyd d)
  | .non _, _ => .non
  | .bl _, _ => .bl _
  | .int _, _ => .int _
  | .str _, _ => .str _
  | .ty _, h => by cases h
  | .sh (a := a) (k := k) (vs := vs) h r z, e => by
    unfold eqOk at e
    rw [Bool.and_eq_true] at e
    have rs := Rps.dp s r e.2
    cases k with
    | lst => exact .lst (SqL.of (sm_lst s h)) rs
    | wl => exact .lst (s.sqL h) rs
    | tup => exact .tup (SqT.of (sm_tup s h)) rs
    | wt => exact .tup (s.sqT h) rs
    | _ => cases e.1
  | .own (a := a) (k := k) (vs := vs) h w n r q, e => by
    unfold eqOk at e
    rw [Bool.and_eq_true] at e
    have rs := Rps.dp s r e.2
    cases k with
    | lst => exact .lst (SqL.of h) rs
    | wl => exact .lst h rs
    | tup => exact .tup (SqT.of h) rs
    | wt => exact .tup h rs
    | _ => cases e.1
theorem Rps.dp {Hs H : Hp} (s : Sm Hs H) {vs : List V} {ds : List D} {f : Fp} : Rps G Hs H vs ds f → eqOks ds = true → DpAll G.K H vs (pyds ds)
  | .nil _, _ => .nil
  | .cons r rs _, e => by
    unfold eqOks at e
    rw [Bool.and_eq_true] at e
    exact .cons (Rp.dp s r e.1) (Rps.dp s rs e.2)
end
theorem eqS : OpS G (rEqD G.K) eqD := by
  intro Hs H v1 v2 d1 d2 z Q s r1 r2 hz q
  unfold eqD at hz
  split at hz
  · rename_i h
    cases hz
    simp only [Bool.and_eq_true] at h
    exact ⟨_, _, r1.dp s h.1.1.1, r2.dp s h.1.1.2, h.1.2, h.2, res0 s q (r_bl _)⟩
  · cases hz
theorem neS : OpS G (rNeD G.K) neD := by
  intro Hs H v1 v2 d1 d2 z Q s r1 r2 hz q
  unfold neD at hz
  split at hz
  · rename_i h
    cases hz
    simp only [Bool.and_eq_true] at h
    exact ⟨_, _, r1.dp s h.1.1.1, r2.dp s h.1.1.2, h.1.2, h.2, res0 s q (r_bl _)⟩
  · cases hz
theorem Rp.flat {Hs H : Hp} {v : V} {d : D} {f : Fp} (r : Rp G Hs H v d f) (h : flatD d = true) : flatV v = true := by
  cases r <;> first | rfl | cases h
theorem Rps.flats {Hs H : Hp} : ∀ {vs : List V} {ds : List D} {f : Fp}, Rps G Hs H vs ds f → ds.all flatD = true → vs.all flatV = true
  | _, _, _, .nil _, _ => rfl
  | _, _, _, .cons r rs _, h => by
    rw [List.all_cons, Bool.and_eq_true] at h ⊢
    exact ⟨r.flat h.1, rs.flats h.2⟩
theorem Rp.eqf {Hs H : Hp} {v w : V} {d e : D} {f g : Fp} (r : Rp G Hs H v d f) (r2 : Rp G Hs H w e g) : eqV v w = eqF d e := by
  cases r <;> cases r2 <;> rfl
theorem Rps.inv {Hs H : Hp} {w : V} {e : D} {g : Fp} (r2 : Rp G Hs H w e g) : ∀ {vs : List V} {ds : List D} {f : Fp}, Rps G Hs H vs ds f → inV w vs = ds.any fun y => eqF y e
  | _, _, _, .nil _ => rfl
  | _, _, _, .cons r rs _ => by
    have ih := Rps.inv r2 rs
    unfold inV at ih ⊢
    rw [List.any_cons, List.any_cons, r.eqf r2, ih]
def rInS (neg : Bool) : R2 := fun x y H Q => ∃ i j, x = V.str i ∧ y = V.str j ∧ Q (V.bl (match neg with | true => !!(Builtin.Str.occurrences j i 0 j.length 1).isEmpty | false => !(Builtin.Str.occurrences j i 0 j.length 1).isEmpty)) H
def rInA (K : PySem.W.Frag) (neg : Bool) : R2 := fun x y H Q => rIn K neg x y H Q ∨ rInS neg x y H Q
theorem inS0 {Hs H : Hp} {v1 v2 : V} {d1 d2 z : D} {Q : VK} {neg : Bool} (s : Sm Hs H) {f1 f2 : Fp} (r1 : Rp G Hs H v1 d1 f1) (r2 : Rp G Hs H v2 d2 f2) (hz : inD d1 d2 = some z) (q : ∀ k, z = .bl k → Q (.bl (if neg then !k else k)) H) : rInA G.K neg v1 v2 H Q := by
  unfold inD at hz
  split at hz
  · split at hz
    · cases hz
      rw [r1.toS, r2.toS]
      refine .inr ⟨_, _, rfl, rfl, ?_⟩
      have := q _ rfl
      cases neg
      · exact this
      · simpa using this
    · cases hz
  · split at hz
    · rename_i b xs hs
      split at hz
      · rename_i h
        cases hz
        rw [Bool.and_eq_true] at h
        obtain ⟨a, vs, g, rfl, h1, h2, rs, _⟩ := r2.seq s hs
        refine .inl ⟨a, vs, rfl, ?_, r1.flat h.1, rs.flats h.2, ?_⟩
        · cases b
          · exact .inr (h2 rfl)
          · exact .inl (h1 rfl)
        · rw [rs.inv r1]
          exact q _ rfl
      · cases hz
    · cases hz
theorem inS : OpS G (rInA G.K false) inD := by
  intro Hs H v1 v2 d1 d2 z Q s r1 r2 hz q
  refine inS0 s r1 r2 hz fun k hk => ?_
  subst hk
  exact res0 s q (r_bl _)
theorem notInS : OpS G (rInA G.K true) notInD := by
  intro Hs H v1 v2 d1 d2 z Q s r1 r2 hz q
  unfold notInD at hz
  split at hz
  · rename_i k he
    cases hz
    refine inS0 s r1 r2 he fun k' hk => ?_
    cases hk
    exact res0 s q (r_bl _)
  · cases hz
end
theorem op_inA {X : Cx} : OpR X (compareOp .In) (rInA X.K false) := op_in_seq.or op_in_str
theorem op_notInA {X : Cx} : OpR X (compareOp .NotIn) (rInA X.K true) := op_notIn_seq.or op_notIn_str
end Bx

set_option Elab.async false
set_option linter.all false
set_option maxRecDepth 100000
set_option maxHeartbeats 1000000
/-! Arguments, calls of built-ins, displays, subscripts, slices. -/
namespace Bx
open PySem L2

def aNil : FA := fun e => .ok [] e
def aCons (a : FE) (r : FA) : FA := fun e => (a e).bind fun x e1 => (r e1).bind fun xs e2 => .ok (.d x :: xs) e2
def aIo (i : Nat) (r : FA) : FA := fun e => match e.sl[i]? with
  | some (some _) => (r e).bind fun xs e2 => .ok (.io i :: xs) e2
  | _ => .bad
/-- the data of arguments, looked at -/
def av (e : En) : AV → Option D
  | .d x => some x
  | .io i => (e.sl[i]?).getD none
def avs (e : En) : List AV → Option (List D)
  | [] => some []
  | a :: as => match av e a, avs e as with
    | some d, some ds => some (d :: ds)
    | _, _ => none
/-- the data of arguments, none of them a slot -/
def dvs : List AV → Option (List D)
  | [] => some []
  | .d x :: as => match dvs as with
    | some ds => some (x :: ds)
    | none => none
  | .io _ :: _ => none
/-- looked at: each stands somewhere -/
inductive Rpb (G : Gc) (Hs H : Hp) : List V → List D → Prop
  | nil : Rpb G Hs H [] []
  | cons {v d f vs ds} (r : Rp G Hs H v d f) (rs : Rpb G Hs H vs ds) : Rpb G Hs H (v :: vs) (d :: ds)
def CallB (G : Gc) (r : List V → Hp → VK → Prop) (g : List D → Option D) : Prop := ∀ {Hs H : Hp} {vs : List V} {ds : List D} {z : D} {Q : VK}, Sm Hs H → Rpb G Hs H vs ds → g ds = some z →
  (∀ v, Rp G Hs H v z f0 → Q v H) → r vs H Q
def eCallB (g : List D → Option D) (as : FA) : FE := fun e => (as e).bind fun as e1 => .opt ((avs e1 as).bind g) e1
def eCallF (g : List D → Option D) (as : FA) : FE := fun e => (as e).bind fun as e1 => .opt ((dvs as).bind fun ds => g (frzs ds)) e1
def eTup (as : FA) : FE := eCallF (fun ds => if ds.length ≤ lim then some (.nd .tup false ds) else none) as
def eLst (as : FA) : FE := fun e => (as e).bind fun as e1 => .opt ((dvs as).bind fun ds => if ds.length ≤ lim then some (.nd .lst true ds) else none) e1

theorem frzs_len : ∀ xs : List D, (frzs xs).length = xs.length
  | [] => rfl
  | x :: xs => by unfold frzs; rw [List.length_cons, List.length_cons, frzs_len xs]

section
variable {G : Gc} {Hs H : Hp} {σ : L2.St}
theorem Ra.look {e : En} {fe : Fp} (s : Sls G Hs H σ e.sl fe) : ∀ {vs : List V} {as : List AV} {ds : List D} {f : Fp}, Ra G Hs H σ vs as f → avs e as = some ds → Rpb G Hs H vs ds
  | _, _, _, _, .nil _, h => by cases h; exact .nil
  | _, _, ds, _, .d (x := x) (as := as) r rs _, h => by
    unfold avs at h
    simp only [av] at h
    cases h2 : avs e as with
    | none => rw [h2] at h; cases h
    | some ds' => rw [h2] at h; cases h; exact .cons r (Ra.look s rs h2)
  | _, _, ds, _, .io (v := v) (i := i) (as := as) hs rs, h => by
    unfold avs at h
    simp only [av] at h
    cases h1 : e.sl[i]? with
    | none => rw [h1] at h; cases h
    | some o =>
      cases o with
      | none => rw [h1] at h; cases h
      | some d =>
        rw [h1] at h
        cases h2 : avs e as with
        | none => rw [h2] at h; cases h
        | some ds' =>
          rw [h2] at h; cases h
          obtain ⟨w, f1, f2, e1, r1, _⟩ := s.get h1
          rw [hs] at e1; cases e1
          exact .cons r1 (Ra.look s rs h2)
theorem Ra.vals : ∀ {vs : List V} {as : List AV} {ds : List D} {f : Fp}, Ra G Hs H σ vs as f → dvs as = some ds → Rps G Hs H vs ds f
  | _, _, _, _, .nil z, h => by cases h; exact .nil z
  | _, _, ds, _, .d (x := x) (as := as) r rs e, h => by
    unfold dvs at h
    cases h2 : dvs as with
    | none => rw [h2] at h; cases h
    | some ds' => rw [h2] at h; cases h; exact .cons r (Ra.vals rs h2) e
  | _, _, ds, _, .io _ _, h => by unfold dvs at h; cases h
theorem Rps.rpb : ∀ {vs : List V} {ds : List D} {f : Fp}, Rps G Hs H vs ds f → Rpb G Hs H vs ds
  | _, _, _, .nil _ => .nil
  | _, _, _, .cons r rs _ => .cons r rs.rpb
end

section
variable {X : Cx} {C : Cc} {W : WX} {pos : Pos} {a b c : Expr} {es : List Expr} {Fa Fb Fc : FE} {As : FA}
theorem ba_nil : BA X C W [] aNil := pa_nil.imp fun σ H Q ⟨e, Hs, fe, P, ok, q⟩ => q [] Hs H fe f0 (Aft.refl _ _ _) ok (.nil fun _ => rfl)
theorem ba_cons (ha : BE X C W a Fa) (hs : BA X C W es As) (hst : starEach (a :: es) X.env = (false, eval a X.env) :: starEach es X.env) : BA X C W (a :: es) (aCons Fa As) :=
  (pa_cons ha hs hst).imp fun σ H Q ⟨e, Hs, fe, P, ok, q⟩ => by
    refine firstE ok q.bind fun d1 e1 v1 Hs1 H1 fe1 fv1 a1 ok1 r1 q1 => ?_
    refine bindA ok1 (.rp r1) (q1.shift a1).bind fun d2 e2 v2 Hs2 H2 fe2 fv2 a2 ok2 r1 r2 q2 => ?_
    exact q2 _ Hs2 H2 fe2 _ (a2.weak fun b hb => .inl hb) ok2 (.d r1 r2 fun _ => rfl)
theorem ba_io {i : Nat} (ha : PE X a (tVar i)) (hs : BA X C W es As) (hst : starEach (a :: es) X.env = (false, eval a X.env) :: starEach es X.env) : BA X C W (a :: es) (aIo i As) :=
  (pa_cons ha hs hst).imp fun σ H Q ⟨e, Hs, fe, P, ok, q⟩ => by
    unfold aIo at q
    cases h1 : e.sl[i]? with
    | none => rw [h1] at q; exact q.elim
    | some o =>
      cases o with
      | none => rw [h1] at q; exact q.elim
      | some d =>
        rw [h1] at q
        obtain ⟨v, f1, f2, e1, _⟩ := ok.sl.get h1
        refine ⟨v, e1, ?_⟩
        refine firstA ok (EndA.bind q) fun d2 e2 v2 Hs2 H2 fe2 fv2 a2 ok2 r2 q2 => ?_
        exact q2 _ Hs2 H2 fe2 fv2 a2 ok2 (.io e1 r2)

/-- a call of a built-in that only looks, and answers a scalar -/
theorem be_callB {e : Expr} {r : List V → Hp → VK → Prop} {g : List D → Option D} (hp : ∀ t, PA X es t → PE X e (tCB r t)) (hg : CallB C.toGc r g) (ha : BA X C W es As) : BE X C W e (eCallB g As) :=
  (hp _ ha).imp fun σ H Q ⟨e, Hs, fe, P, ok, q⟩ => by
    refine firstA ok q.bind fun as e1 vs Hs1 H1 fe1 fv1 a1 ok1 r1 q1 => ?_
    cases h : (avs e1 as).bind g with
    | none => rw [h] at q1; exact q1.elim
    | some z =>
      rw [h] at q1
      obtain ⟨ds, h1, h2⟩ := Option.bind_eq_some_iff.mp h
      exact hg ok1.sm (r1.look ok1.sl h1) h2 fun v rz => q1 v Hs1 H1 fe1 f0 a1 (ok1.less fun _ => Nat.zero_le _) rz
theorem be_callF {e : Expr} {r : List V → Hp → VK → Prop} {g : List D → Option D} (hp : ∀ t, PA X es t → PE X e (tCB r t)) (hg : CallS C.toGc r g) (ha : BA X C W es As) : BE X C W e (eCallF g As) :=
  (hp _ ha).imp fun σ H Q ⟨e, Hs, fe, P, ok, q⟩ => by
    refine firstA ok q.bind fun as e1 vs Hs1 H1 fe1 fv1 a1 ok1 r1 q1 => ?_
    cases h : (dvs as).bind fun ds => g (frzs ds) with
    | none => rw [h] at q1; exact q1.elim
    | some z =>
      rw [h] at q1
      obtain ⟨ds, h1, h2⟩ := Option.bind_eq_some_iff.mp h
      obtain ⟨Hs3, a3, ok3, r3⟩ := ok1.freezes (r1.vals h1)
      exact hg ok3.sm r3 h2 fun v Hs5 H5 fv n rz => (q1.shift (a1.trans a3)) v Hs5 H5 fe1 fv (n.aft ok3) ((ok3.new n fun _ h => absurd rfl h).fps (fun _ => rfl) fun _ => (Nat.zero_add _).symm) rz
/-- a tuple; a list whose items stay owned -/
theorem be_tup {x1} (ha : BA X C W es As) : BE X C W (.Tuple es x1 pos) (eTup As) :=
  (pe_tup ha).imp fun σ H Q ⟨e, Hs, fe, P, ok, q⟩ => by
    refine firstA ok q.bind fun as e1 vs Hs1 H1 fe1 fv1 a1 ok1 r1 q1 => ?_
    cases h : (dvs as).bind fun ds => (fun ds => if ds.length ≤ lim then some (D.nd .tup false ds) else none) (frzs ds) with
    | none => rw [h] at q1; exact q1.elim
    | some z =>
      rw [h] at q1
      obtain ⟨ds, h1, h2⟩ := Option.bind_eq_some_iff.mp h
      dsimp only at h2
      split at h2
      · rename_i hl
        cases h2
        obtain ⟨Hs3, a3, ok3, r3⟩ := ok1.freezes (r1.vals h1)
        refine ⟨by rw [r3.len]; exact lim_le hl, fun p hp => ?_⟩
        exact resTup (G := C.toGc) ok3.sm (fun v Hs5 H5 fv n rz => (q1.shift (a1.trans a3)) v Hs5 H5 fe1 fv (n.aft ok3) ((ok3.new n fun _ h => absurd rfl h).fps (fun _ => rfl) fun _ => (Nat.zero_add _).symm) rz) r3 hp
      · cases h2
theorem be_lst (ha : BA X C W es As) : BE X C W (.List es pos) (eLst As) :=
  (pe_lst ha).imp fun σ H Q ⟨e, Hs, fe, P, ok, q⟩ => by
    refine firstA ok q.bind fun as e1 vs Hs1 H1 fe1 fv1 a1 ok1 r1 q1 => ?_
    cases h : (dvs as).bind fun ds => if ds.length ≤ lim then some (D.nd .lst true ds) else none with
    | none => rw [h] at q1; exact q1.elim
    | some z =>
      rw [h] at q1
      obtain ⟨ds, h1, h2⟩ := Option.bind_eq_some_iff.mp h
      split at h2
      · rename_i hl
        cases h2
        have r3 := r1.vals h1
        refine ⟨by rw [r3.len]; exact lim_le hl, fun p hp => ?_⟩
        have n := New.obj (o := .lst vs) ok1.sm hp
        have hne : ∀ b, fv1 b ≠ 0 → b ≠ p := fun b hb z => (r3.live b hb).1 (z ▸ hp)
        exact (q1.shift a1) _ Hs1 _ fe1 _ (n.aft ok1) (ok1.new n fun b hb => (r3.live b hb).1) (newLst ok1.sm hp r3 hne)
      · cases h2
end
end Bx

set_option Elab.async false
set_option linter.all false
set_option maxRecDepth 100000
set_option maxHeartbeats 1000000
/-! Built-ins by their data. -/
namespace Bx
open PySem L2

def intsD : List D → Option (List Int)
  | [] => some []
  | .int i :: xs => (intsD xs).map (i :: ·)
  | _ => none
def blsD : List D → Option (List Bool)
  | [] => some []
  | .bl i :: xs => (blsD xs).map (i :: ·)
  | _ => none
theorem intsD_some : ∀ {xs : List D} {ns : List Int}, intsD xs = some ns → xs = ns.map D.int
  | [], _, h => by cases h; rfl
  | .int i :: xs, ns, h => by
    unfold intsD at h
    obtain ⟨ms, h1, rfl⟩ := Option.map_eq_some_iff.mp h
    rw [intsD_some h1]; rfl
  | .non :: _, _, h => by cases h
  | .bl _ :: _, _, h => by cases h
  | .str _ :: _, _, h => by cases h
  | .ty _ :: _, _, h => by cases h
  | .nd _ _ _ :: _, _, h => by cases h
theorem blsD_some : ∀ {xs : List D} {ns : List Bool}, blsD xs = some ns → xs = ns.map D.bl
  | [], _, h => by cases h; rfl
  | .bl i :: xs, ns, h => by
    unfold blsD at h
    obtain ⟨ms, h1, rfl⟩ := Option.map_eq_some_iff.mp h
    rw [blsD_some h1]; rfl
  | .non :: _, _, h => by cases h
  | .int _ :: _, _, h => by cases h
  | .str _ :: _, _, h => by cases h
  | .ty _ :: _, _, h => by cases h
  | .nd _ _ _ :: _, _, h => by cases h
@[simp] theorem intsD_map : ∀ ns : List Int, intsD (ns.map D.int) = some ns
  | [] => rfl
  | n :: ns => by rw [List.map_cons]; unfold intsD; rw [intsD_map ns]; rfl
@[simp] theorem blsD_map : ∀ ns : List Bool, blsD (ns.map D.bl) = some ns
  | [] => rfl
  | n :: ns => by rw [List.map_cons]; unfold blsD; rw [blsD_map ns]; rfl
def maxI : List Int → Int
  | [] => 0
  | [x] => x
  | x :: xs => if x < maxI xs then maxI xs else x
def minI : List Int → Int
  | [] => 0
  | [x] => x
  | x :: xs => if minI xs < x then minI xs else x
theorem maxI_mem : ∀ {ns : List Int}, ns ≠ [] → maxI ns ∈ ns
  | [], h => absurd rfl h
  | [x], _ => List.mem_singleton.mpr rfl
  | x :: y :: r, _ => by
    have ih := maxI_mem (ns := y :: r) (by simp)
    unfold maxI
    split
    · exact List.mem_cons_of_mem _ ih
    · exact List.mem_cons_self
theorem maxI_ge : ∀ {ns : List Int} {y : Int}, y ∈ ns → y ≤ maxI ns
  | [x], y, h => by rw [List.mem_singleton.mp h]; exact Int.le_refl _
  | x :: z :: r, y, h => by
    unfold maxI
    rcases List.mem_cons.mp h with rfl | h
    · split <;> omega
    · have ih := maxI_ge (ns := z :: r) h
      split <;> omega
theorem minI_mem : ∀ {ns : List Int}, ns ≠ [] → minI ns ∈ ns
  | [], h => absurd rfl h
  | [x], _ => List.mem_singleton.mpr rfl
  | x :: y :: r, _ => by
    have ih := minI_mem (ns := y :: r) (by simp)
    unfold minI
    split
    · exact List.mem_cons_of_mem _ ih
    · exact List.mem_cons_self
theorem minI_le : ∀ {ns : List Int} {y : Int}, y ∈ ns → minI ns ≤ y
  | [x], y, h => by rw [List.mem_singleton.mp h]; exact Int.le_refl _
  | x :: z :: r, y, h => by
    unfold minI
    rcases List.mem_cons.mp h with rfl | h
    · split <;> omega
    · have ih := minI_le (ns := z :: r) h
      split <;> omega

def lenD : List D → Option D
  | [.str x] => if x.length ≤ lim then some (.int x.length) else none
  | [d] => match d.seq with
    | some (_, xs) => some (.int xs.length)
    | none => none
  | _ => none
def intD : List D → Option D
  | [.int i] => some (.int i)
  | [.bl k] => some (.int (if k then 1 else 0))
  | _ => none
def absD : List D → Option D
  | [.int i] => some (.int (if i < 0 then -i else i))
  | _ => none
def maxD : List D → Option D
  | [.int i, .int j] => some (.int (if j > i then j else i))
  | [d] => match d.seq with
    | some (true, xs) => (match intsD xs with
      | some ns => if ns ≠ [] then some (.int (maxI ns)) else none
      | none => none)
    | _ => none
  | _ => none
def minD : List D → Option D
  | [.int i, .int j] => some (.int (if j < i then j else i))
  | [d] => match d.seq with
    | some (true, xs) => (match intsD xs with
      | some ns => if ns ≠ [] then some (.int (minI ns)) else none
      | none => none)
    | _ => none
  | _ => none
def sumD : List D → Option D
  | [d] => match d.seq with
    | some (true, xs) => (intsD xs).map fun ns => .int ns.sum
    | _ => none
  | _ => none
def allD : List D → Option D
  | [d] => match d.seq with
    | some (true, xs) => (blsD xs).map fun ns => .bl (ns.all id)
    | _ => none
  | _ => none
def anyD : List D → Option D
  | [d] => match d.seq with
    | some (true, xs) => (blsD xs).map fun ns => .bl (ns.any id)
    | _ => none
  | _ => none
def tyD : D → Option String
  | .non => some "NoneType" | .bl _ => some "bool" | .int _ => some "int" | .str _ => some "str" | .ty _ => none
  | .nd k _ _ => match k with
    | .lst => some "list" | .tup => some "tuple" | .dk _ => some "dict" | _ => none
def tyNs : List String := ["NoneType", "bool", "int", "str", "list", "tuple", "dict"]
def subT (t n : String) : Bool := t == n || (t == "bool" && n == "int")
theorem subT_kit : ∀ t ∈ tyNs, ∀ n ∈ tyNs, kitB t n = some (subT t n) := by decide +kernel
def tysD : List D → Option (List String)
  | [] => some []
  | .ty n :: xs => if tyNs.contains n then (tysD xs).map (n :: ·) else none
  | _ => none
def isiD : List D → Option D
  | [d, .ty n] => match tyD d with
    | some t => if tyNs.contains n then some (.bl (subT t n)) else none
    | none => none
  | [d, .nd .tup _ xs] => match tyD d, tysD xs with
    | some t, some ns => some (.bl (ns.any fun n => subT t n))
    | _, _ => none
  | _ => none
def reprD : List D → Option D
  | [.int i] => if i.natAbs.log2 < 1920 then some (.str (Str.ofString (toString i))) else none
  | [.str x] => if (reprText x).length ≤ lim then some (.str (reprText x)) else none
  | [.non] => some (.str "None")
  | [.bl k] => some (.str (if k then "True" else "False"))
  | _ => none
def strD : List D → Option D
  | [.int i] => if i.natAbs.log2 < 1920 then some (.str (Str.ofString (toString i))) else none
  | [.str x] => some (.str x)
  | _ => none
def listD : List D → Option D
  | [d] => match d.seq with
    | some (_, xs) => some (.nd .lst true xs)
    | none => none
  | _ => none
def tupleD : List D → Option D
  | [.nd .tup o xs] => some (.nd .tup false xs)
  | [d] => match d.seq with
    | some (true, xs) => some (.nd .tup false xs)
    | _ => none
  | _ => none

theorem CallR.or {X : Cx} {f : Value} {r r' : List V → Hp → VK → Prop} (h : CallR X f r) (h' : CallR X f r') : CallR X f (fun xs H Q => r xs H Q ∨ r' xs H Q) :=
  fun pins s σ H xs us Q I rv q => q.elim (h pins s σ H xs us Q I rv) (h' pins s σ H xs us Q I rv)
section
variable {G : Gc} {Hs H : Hp}
theorem Rpb.one {vs : List V} {d : D} (r : Rpb G Hs H vs [d]) : ∃ v f, vs = [v] ∧ Rp G Hs H v d f := by
  cases r with | cons r rs => cases rs with | nil => exact ⟨_, _, rfl, r⟩
theorem Rpb.two {vs : List V} {d e : D} (r : Rpb G Hs H vs [d, e]) : ∃ v f w g, vs = [v, w] ∧ Rp G Hs H v d f ∧ Rp G Hs H w e g := by
  cases r with | cons r rs => cases rs with | cons r2 rs => cases rs with | nil => exact ⟨_, _, _, _, rfl, r, r2⟩
theorem Rps.one {vs : List V} {d : D} {f : Fp} (r : Rps G Hs H vs [d] f) : ∃ v, vs = [v] ∧ Rp G Hs H v d f := by
  cases r with | cons r rs e => cases rs with | nil z => exact ⟨_, rfl, r.fp fun b => by rw [e b, z b]; rfl⟩
def rLenA (K : PySem.W.Frag) : List V → Hp → VK → Prop := fun xs H Q => ∃ x n, xs = [x] ∧ LenV K x H n ∧ Q (V.int ↑n) H
theorem lenS : CallB G (rLenA G.K) lenD := by
  intro Hs H vs ds z Q s r0 hz q
  unfold lenD at hz
  split at hz
  · split at hz
    · rename_i h
      cases hz
      obtain ⟨v, f, rfl, r⟩ := r0.one
      rw [r.toS]
      exact ⟨_, _, rfl, ⟨lim_le h, rfl⟩, q _ (r_int _)⟩
    · cases hz
  · split at hz
    · rename_i b xs h
      cases hz
      obtain ⟨v, f, rfl, r⟩ := r0.one
      obtain ⟨a, ws, g, rfl, h1, h2, rs, _⟩ := r.seq s h
      refine ⟨_, xs.length, rfl, ?_, q _ (r_int _)⟩
      cases b
      · exact .inr ⟨ws, h2 rfl, rs.len.symm⟩
      · exact .inl ⟨ws, h1 rfl, rs.len.symm⟩
    · cases hz
  · cases hz
def rInt1 : List V → Hp → VK → Prop := fun xs H Q => (∃ i, xs = [V.int i] ∧ Q (V.int i) H) ∨ ∃ k, xs = [V.bl k] ∧ Q (V.int (if k = true then 1 else 0)) H
theorem intS : CallB G rInt1 intD := by
  intro Hs H vs ds z Q s r0 hz q
  unfold intD at hz
  split at hz
  · cases hz
    obtain ⟨v, f, rfl, r⟩ := r0.one
    rw [r.toI]; exact .inl ⟨_, rfl, q _ (r_int _)⟩
  · cases hz
    obtain ⟨v, f, rfl, r⟩ := r0.one
    rw [r.toB]; exact .inr ⟨_, rfl, q _ (r_int _)⟩
  · cases hz
def rAbs : List V → Hp → VK → Prop := fun xs H Q => ∃ i, xs = [V.int i] ∧ Q (V.int (if i < 0 then -i else i)) H
theorem absS : CallB G rAbs absD := by
  intro Hs H vs ds z Q s r0 hz q
  unfold absD at hz
  split at hz
  · cases hz
    obtain ⟨v, f, rfl, r⟩ := r0.one
    rw [r.toI]; exact ⟨_, rfl, q _ (r_int _)⟩
  · cases hz
def rMaxA (K : PySem.W.Frag) : List V → Hp → VK → Prop := fun xs H Q => (∃ i j, xs = [V.int i, V.int j] ∧ Q (V.int (if j > i then j else i)) H) ∨ rMax K xs H Q
def rMinA (K : PySem.W.Frag) : List V → Hp → VK → Prop := fun xs H Q => (∃ i j, xs = [V.int i, V.int j] ∧ Q (V.int (if j < i then j else i)) H) ∨ rMin K xs H Q
theorem call_maxA {X : Cx} (hc : X.calm = true) : CallR X (.builtin "max") (rMaxA X.K) := CallR.or (call_max2 hc) (cr_max hc)
theorem call_minA {X : Cx} (hc : X.calm = true) : CallR X (.builtin "min") (rMinA X.K) := CallR.or (call_min2 hc) (cr_min hc)
theorem maxS : CallB G (rMaxA G.K) maxD := by
  intro Hs H vs ds z Q s r0 hz q
  unfold maxD at hz
  split at hz
  · cases hz
    obtain ⟨v, f, w, g, rfl, r, r2⟩ := r0.two
    rw [r.toI, r2.toI]; exact .inl ⟨_, _, rfl, q _ (r_int _)⟩
  · split at hz
    · rename_i h
      split at hz
      · rename_i ns hn
        split at hz
        · rename_i h0
          cases hz
          obtain ⟨v, f, rfl, r⟩ := r0.one
          obtain ⟨a, ws, g, rfl, h1, _, rs, _⟩ := r.seq s h
          rw [intsD_some hn] at rs
          refine .inr ⟨a, ns, rfl, by rw [← rs.ints]; exact h1 rfl, List.length_pos_iff.mpr h0, fun m hm hle => ?_⟩
          have e : m = maxI ns := Int.le_antisymm (maxI_ge hm) (hle _ (maxI_mem h0))
          rw [e]; exact q _ (r_int _)
        · cases hz
      · cases hz
    · cases hz
  · cases hz
theorem minS : CallB G (rMinA G.K) minD := by
  intro Hs H vs ds z Q s r0 hz q
  unfold minD at hz
  split at hz
  · cases hz
    obtain ⟨v, f, w, g, rfl, r, r2⟩ := r0.two
    rw [r.toI, r2.toI]; exact .inl ⟨_, _, rfl, q _ (r_int _)⟩
  · split at hz
    · rename_i h
      split at hz
      · rename_i ns hn
        split at hz
        · rename_i h0
          cases hz
          obtain ⟨v, f, rfl, r⟩ := r0.one
          obtain ⟨a, ws, g, rfl, h1, _, rs, _⟩ := r.seq s h
          rw [intsD_some hn] at rs
          refine .inr ⟨a, ns, rfl, by rw [← rs.ints]; exact h1 rfl, List.length_pos_iff.mpr h0, fun m hm hle => ?_⟩
          have e : m = minI ns := Int.le_antisymm (hle _ (minI_mem h0)) (minI_le hm)
          rw [e]; exact q _ (r_int _)
        · cases hz
      · cases hz
    · cases hz
  · cases hz
theorem sumS : CallB G (rSum G.K) sumD := by
  intro Hs H vs ds z Q s r0 hz q
  unfold sumD at hz
  split at hz
  · split at hz
    · rename_i h
      obtain ⟨ns, hn, rfl⟩ := Option.map_eq_some_iff.mp hz
      obtain ⟨v, f, rfl, r⟩ := r0.one
      obtain ⟨a, ws, g, rfl, h1, _, rs, _⟩ := r.seq s h
      rw [intsD_some hn] at rs
      exact ⟨a, ns, rfl, by rw [← rs.ints]; exact h1 rfl, q _ (r_int _)⟩
    · cases hz
  · cases hz
theorem allS : CallB G (rAll G.K) allD := by
  intro Hs H vs ds z Q s r0 hz q
  unfold allD at hz
  split at hz
  · split at hz
    · rename_i h
      obtain ⟨ns, hn, rfl⟩ := Option.map_eq_some_iff.mp hz
      obtain ⟨v, f, rfl, r⟩ := r0.one
      obtain ⟨a, ws, g, rfl, h1, _, rs, _⟩ := r.seq s h
      rw [blsD_some hn] at rs
      exact ⟨a, ns, rfl, by rw [← rs.bls]; exact h1 rfl, q _ (r_bl _)⟩
    · cases hz
  · cases hz
theorem anyS : CallB G (rAny G.K) anyD := by
  intro Hs H vs ds z Q s r0 hz q
  unfold anyD at hz
  split at hz
  · split at hz
    · rename_i h
      obtain ⟨ns, hn, rfl⟩ := Option.map_eq_some_iff.mp hz
      obtain ⟨v, f, rfl, r⟩ := r0.one
      obtain ⟨a, ws, g, rfl, h1, _, rs, _⟩ := r.seq s h
      rw [blsD_some hn] at rs
      exact ⟨a, ns, rfl, by rw [← rs.bls]; exact h1 rfl, q _ (r_bl _)⟩
    · cases hz
  · cases hz
theorem Rp.tyx {v : V} {d : D} {f : Fp} {t : String} (s : Sm Hs H) (r : Rp G Hs H v d f) (h : tyD d = some t) : TyX G.K H v (.type t) := by
  cases d with
  | non => cases h; rw [r.toN]; exact .base .non
  | bl k => cases h; rw [r.toB]; exact .base (.bl _)
  | int i => cases h; rw [r.toI]; exact .base (.int _)
  | str x => cases h; rw [r.toS]; exact .base (.str _)
  | ty n => cases h
  | nd k o xs =>
    obtain ⟨a, vs, g, rfl, rs, _, at_⟩ := r.nd s
    cases k with
    | lst =>
      cases h
      rcases at_ with h | ⟨h, _⟩ | ⟨h, _⟩
      · exact .base (.lst h)
      · exact .base (.lst (sm_lst s h))
      · cases h
    | tup =>
      cases h
      rcases at_ with h | ⟨h, _⟩ | ⟨h, _⟩
      · exact .base (.tup h)
      · exact .base (.tup (sm_tup s h))
      · cases h
    | dk ks =>
      cases h
      rcases at_ with h | ⟨h, _⟩ | ⟨h, _⟩
      · exact .base (.dK h.2)
      · rcases s _ _ h.2 with z | ⟨_, od, z⟩
        · exact .base (.dK z)
        · exact .fDict z
      · cases h
    | _ => cases h
theorem tyD_mem {d : D} {t : String} (h : tyD d = some t) : t ∈ tyNs := by
  cases d with
  | nd k o xs => cases k <;> cases h <;> decide
  | _ => cases h <;> decide
theorem tysD_some : ∀ {xs : List D} {ns : List String}, tysD xs = some ns → xs = ns.map D.ty ∧ ∀ n ∈ ns, n ∈ tyNs
  | [], _, h => by cases h; exact ⟨rfl, fun _ h => by cases h⟩
  | .ty n :: xs, ns, h => by
    unfold tysD at h
    split at h
    · rename_i hn
      obtain ⟨ms, h1, rfl⟩ := Option.map_eq_some_iff.mp h
      obtain ⟨e, k⟩ := tysD_some h1
      exact ⟨by rw [e]; rfl, fun m hm => by
        rcases List.mem_cons.mp hm with rfl | hm
        · exact List.contains_iff_mem.mp hn
        · exact k m hm⟩
    · cases h
  | .non :: _, _, h => by cases h
  | .bl _ :: _, _, h => by cases h
  | .int _ :: _, _, h => by cases h
  | .str _ :: _, _, h => by cases h
  | .nd _ _ _ :: _, _, h => by cases h
theorem Rps.tys : ∀ {vs : List V} {ns : List String} {g : Fp}, Rps G Hs H vs (ns.map D.ty) g → Paired ClsV vs (ns.map Value.type)
  | _, [], _, .nil _ => .nil
  | _, n :: ns, _, .cons r rs _ => by rw [r.toT]; exact .cons (.ty n) (Rps.tys rs)
theorem kitAny_ty {K : PySem.W.Frag} {t : String} (ht : t ∈ tyNs) : ∀ ns : List String, (∀ n ∈ ns, n ∈ tyNs) → PySem.W.kitAny K (.type t) (ns.map Value.type) = some (ns.any fun n => subT t n)
  | [], _ => rfl
  | n :: ns, h => by
    have h1 := subT_kit t ht n (h n List.mem_cons_self)
    have ih := kitAny_ty (K := K) ht ns fun m hm => h m (List.mem_cons_of_mem _ hm)
    refine kitAny_cons (kit_ty h1) (fun e => ?_) fun e => ?_
    · rw [ih, List.any_cons, e]; rfl
    · rw [List.any_cons, e]; rfl
def rIsiA (K : PySem.W.Frag) : List V → Hp → VK → Prop := fun xs H Q => rIsi K xs H Q ∨ rIsiT K xs H Q
theorem call_isiA {X : Cx} : CallR X (.builtin "isinstance") (rIsiA X.K) := CallR.or call_isi call_isiT
theorem isiS : CallB G (rIsiA G.K) isiD := by
  intro Hs H vs ds z Q s r0 hz q
  unfold isiD at hz
  split at hz
  · split at hz
    · rename_i t ht
      split at hz
      · rename_i hn
        cases hz
        obtain ⟨v, f, w, g, rfl, r, r2⟩ := r0.two
        rw [r2.toT]
        exact .inl ⟨_, _, _, _, _, rfl, .ty _, r.tyx s ht, kit_ty (subT_kit _ (tyD_mem ht) _ (List.contains_iff_mem.mp hn)), q _ (r_bl _)⟩
      · cases hz
    · cases hz
  · split at hz
    · rename_i t ns ht hn
      cases hz
      obtain ⟨v, f, w, g, rfl, r, r2⟩ := r0.two
      obtain ⟨a, ws, g', rfl, rs, _, at_⟩ := r2.nd s
      obtain ⟨e, k⟩ := tysD_some hn
      rw [e] at rs
      have ha : H a = some (.tup ws) := by
        rcases at_ with h | ⟨h, _⟩ | ⟨h, _⟩
        · exact h
        · exact sm_tup s h
        · cases h
      exact .inr ⟨_, _, _, _, _, _, rfl, ha, rs.tys, r.tyx s ht, kitAny_ty (tyD_mem ht) ns k, q _ (r_bl _)⟩
    · cases hz
  · cases hz
def rRepr : List V → Hp → VK → Prop := fun xs H Q => (∃ i, xs = [.int i] ∧ i.natAbs.log2 < 1920 ∧ Q (.str (Str.ofString (toString i))) H) ∨ (∃ x, xs = [.str x] ∧ (reprText x).length ≤ sizeLine ∧ Q (.str (reprText x)) H) ∨
  (xs = [.non] ∧ Q (.str "None") H) ∨ ∃ k, xs = [.bl k] ∧ Q (.str (if k then "True" else "False")) H
theorem call_repr {X : Cx} : CallR X (.builtin "repr") rRepr := by
  intro pins s σ H xs us Q I r h
  rcases h with ⟨i, rfl, hz, q⟩ | ⟨x, rfl, hz, q⟩ | ⟨rfl, q⟩ | ⟨k, rfl, q⟩
  · cases r with | cons r rs =>
    cases rs
    obtain ⟨t, rfl⟩ := r
    exact PySem.P.repr_of_int hz ⟨.str _, H, I.tok _, ⟨_, rfl⟩, q⟩
  · cases r with | cons r rs =>
    cases rs
    obtain ⟨t, rfl⟩ := r
    exact PySem.P.repr_of_str ⟨.str _, H, I.tok _, ⟨_, rfl⟩, q⟩ hz
  · cases r with | cons r rs =>
    cases rs
    cases r
    exact PySem.P.repr_of_none ⟨.str _, H, I.tok _, ⟨_, rfl⟩, q⟩
  · cases r with | cons r rs =>
    cases rs
    cases r
    refine PySem.P.repr_of_bool ⟨.str _, H, I.tok _, ⟨_, rfl⟩, ?_⟩
    cases k <;> exact q
theorem reprS : CallB G rRepr reprD := by
  intro Hs H vs ds z Q s r0 hz q
  unfold reprD at hz
  split at hz
  · split at hz
    · rename_i h
      cases hz
      obtain ⟨v, f, rfl, r⟩ := r0.one
      rw [r.toI]; exact .inl ⟨_, rfl, h, q _ (r_str _)⟩
    · cases hz
  · split at hz
    · rename_i h
      cases hz
      obtain ⟨v, f, rfl, r⟩ := r0.one
      rw [r.toS]; exact .inr (.inl ⟨_, rfl, lim_le h, q _ (r_str _)⟩)
    · cases hz
  · cases hz
    obtain ⟨v, f, rfl, r⟩ := r0.one
    rw [r.toN]; exact .inr (.inr (.inl ⟨rfl, q _ (r_str _)⟩))
  · cases hz
    obtain ⟨v, f, rfl, r⟩ := r0.one
    rw [r.toB]; exact .inr (.inr (.inr ⟨_, rfl, q _ (r_str _)⟩))
  · cases hz
def rStrA : List V → Hp → VK → Prop := fun xs H Q => (∃ i, xs = [V.int i] ∧ i.natAbs.log2 < 1920 ∧ Q (V.str (PySem.Str.ofString (toString i))) H) ∨ ∃ a, xs = [.str a] ∧ Q (.str a) H
theorem call_strA {X : Cx} : CallR X (.type "str") rStrA := CallR.or call_str_int SkE.call_str_str
theorem strS : CallB G rStrA strD := by
  intro Hs H vs ds z Q s r0 hz q
  unfold strD at hz
  split at hz
  · split at hz
    · rename_i h
      cases hz
      obtain ⟨v, f, rfl, r⟩ := r0.one
      rw [r.toI]; exact .inl ⟨_, rfl, h, q _ (r_str _)⟩
    · cases hz
  · cases hz
    obtain ⟨v, f, rfl, r⟩ := r0.one
    rw [r.toS]; exact .inr ⟨_, rfl, q _ (r_str _)⟩
  · cases hz
def rListA (K : PySem.W.Frag) : List V → Hp → VK → Prop := fun xs H Q => ∃ p ys, xs = [V.ref p] ∧ (SqL K H p ys ∨ SqT K H p ys) ∧ ∀ (l : Addr), H l = none → Q (V.ref l) (upd H l (HO.lst ys))
theorem listS : CallS G (rListA G.K) listD := by
  intro Hs H vs ds z Q s r0 hz q
  unfold listD at hz
  split at hz
  · split at hz
    · rename_i b xs h
      cases hz
      obtain ⟨v, rfl, r⟩ := r0.one
      obtain ⟨a, ws, g, rfl, h1, h2, rs, le⟩ := r.seq s h
      refine ⟨a, ws, rfl, ?_, fun l hl => resLst s q (rs.z le) hl⟩
      cases b
      · exact .inr (h2 rfl)
      · exact .inl (h1 rfl)
    · cases hz
  · cases hz
def rTupleA (K : PySem.W.Frag) : List V → Hp → VK → Prop := fun xs H Q => ∃ p ys, xs = [V.ref p] ∧ ((SqL K H p ys ∧ ∀ (l : Addr), H l = none → Q (V.ref l) (upd H l (HO.tup ys))) ∨ SqT K H p ys ∧ Q (V.ref p) H)
theorem tupleS : CallS G (rTupleA G.K) tupleD := by
  intro Hs H vs ds z Q s r0 hz q
  unfold tupleD at hz
  split at hz
  · cases hz
    obtain ⟨v, rfl, r⟩ := r0.one
    have r' := r
    cases r with
    | sh h rs z => exact ⟨_, _, rfl, .inr ⟨SqT.of (sm_tup s h), q _ Hs H f0 (New.refl s) (.sh h rs z)⟩⟩
    | own h w n rs e => have := e ‹Addr›; rw [if_pos rfl] at this; simp only [f0] at this; omega
  · split at hz
    · rename_i h
      cases hz
      obtain ⟨v, rfl, r⟩ := r0.one
      obtain ⟨a, ws, g, rfl, h1, h2, rs, le⟩ := r.seq s h
      exact ⟨a, ws, rfl, .inl ⟨h1 rfl, fun l hl => resTup s q (rs.z le) hl⟩⟩
    · cases hz
  · cases hz
end
end Bx

set_option Elab.async false
set_option linter.all false
set_option maxRecDepth 100000
set_option maxHeartbeats 1000000
/-! Subscripts, slices. -/
namespace Bx
open PySem L2

def kpos {κ : Type} [DecidableEq κ] : List κ → κ → Option Nat
  | [], _ => none
  | k' :: ks, k => if k' = k then some 0 else (kpos ks k).map (· + 1)
theorem valV_kpos {κ : Type} [DecidableEq κ] {k : κ} : ∀ {ks : List κ} {vs : List V}, ks.length = vs.length → valV (ks.zip vs) k = (kpos ks k).bind (vs[·]?)
  | [], [], _ => rfl
  | [], _ :: _, h => by cases h
  | _ :: _, [], h => by cases h
  | k' :: ks, v :: vs, h => by
    have ih := valV_kpos (k := k) (ks := ks) (vs := vs) (by simpa using h)
    unfold valV at ih ⊢
    unfold kpos
    rw [List.zip_cons_cons, List.find?_cons]
    by_cases e : k' = k
    · rw [if_pos e, decide_eq_true e]; rfl
    · rw [if_neg e, decide_eq_false e, ih]
      cases kpos ks k <;> rfl
theorem kpos_lt {κ : Type} [DecidableEq κ] {k : κ} : ∀ {ks : List κ} {j : Nat}, kpos ks k = some j → j < ks.length
  | [], _, h => by cases h
  | k' :: ks, j, h => by
    unfold kpos at h
    split at h
    · cases h; simp
    · obtain ⟨i, h1, rfl⟩ := Option.map_eq_some_iff.mp h
      have := kpos_lt h1
      rw [List.length_cons]; omega
def keyD : D → Option Key
  | .int i => some (.inl i)
  | .str x => some (.inr x)
  | _ => none
def keysD : List D → Option (List Key)
  | [] => some []
  | d :: ds => (keyD d).bind fun k => (keysD ds).map (k :: ·)
def tkeyD : D → Option (List Key)
  | .nd .tup _ xs => keysD xs
  | _ => none
def cpos : D → D → Option Nat
  | .nd k _ xs, y => match k with
    | .lst => (match y with | .int i => ixN xs.length i | _ => none)
    | .wl => (match y with | .int i => ixN xs.length i | _ => none)
    | .tup => (match y with | .int i => ixN xs.length i | _ => none)
    | .wt => (match y with | .int i => ixN xs.length i | _ => none)
    | .dk ks => (keyD y).bind (kpos ks)
    | .dt ks => (tkeyD y).bind (kpos ks)
    | .ins _ _ => none
  | _, _ => none
def idxD : D → D → Option D
  | .str x, y => (match y with
    | .int i => if x.length ≤ lim then (atI x.cps.toList i).map fun c => .str ⟨#[c]⟩ else none
    | _ => none)
  | .nd k o xs, y => (cpos (.nd k o xs) y).bind (xs[·]?)
  | _, _ => none
/-- one item, frozen where it stands -/
def refD : D → D → Option (D × D)
  | .nd k o xs, y => (cpos (.nd k o xs) y).bind fun j => (xs[j]?).map fun d => (frz d, if o then .nd k o (xs.set j (frz d)) else .nd k o xs)
  | d, y => (idxD d y).map fun z => (z, d)

def rDIx : R2 := fun x y H Q => ∃ a v, x = V.ref a ∧ DGet H a y (some v) ∧ Q v H
def rIxA (K : PySem.W.Frag) : R2 := fun x y H Q => rIx K x y H Q ∨ rDIx x y H Q
theorem ix_dict {X : Cx} (hu : X.A.units + 1 < cLine) : IxR X rDIx := by
  intro value slice pins s σ H x y v u Q I rx ry h hs
  obtain ⟨a, w, rfl, g, q⟩ := h
  cases rx
  exact PyProof.Rows.tail_any (dict_typeIs I g) PySem.F.slot_dict_getitem.lookup (d_getItem hu I g ry fun w' s3 I3 rw' => ⟨w, H, I3, rw', q⟩) hs
theorem ix_A {X : Cx} (hu : X.A.units + 1 < cLine) : IxR X (rIxA X.K) := fun a b pins s σ H x y v u Q I rx ry h hs =>
  h.elim (fun h => ix_seq a b pins s σ H x y v u Q I rx ry h hs) fun h => ix_dict hu a b pins s σ H x y v u Q I rx ry h hs

section
variable {G : Gc} {Hs H : Hp}
theorem keyD_rp {v : V} {d : D} {f : Fp} {k : Key} (r : Rp G Hs H v d f) (h : keyD d = some k) : v = kV k := by
  cases d with
  | int i => cases h; exact r.toI
  | str x => cases h; exact r.toS
  | _ => cases h
theorem keysD_rps : ∀ {vs : List V} {ds : List D} {f : Fp} {ks : List Key}, Rps G Hs H vs ds f → keysD ds = some ks → vs = ks.map kV
  | _, _, _, _, .nil _, h => by cases h; rfl
  | _, _, _, ks, .cons (d := d) (ds := ds) r rs _, h => by
    unfold keysD at h
    obtain ⟨k, h1, h2⟩ := Option.bind_eq_some_iff.mp h
    obtain ⟨ks', h3, rfl⟩ := Option.map_eq_some_iff.mp h2
    rw [keyD_rp r h1, keysD_rps rs h3]; rfl
theorem tkeyD_rp {v : V} {d : D} {f : Fp} {ks : List Key} (s : Sm Hs H) (r : Rp G Hs H v d f) (h : tkeyD d = some ks) : ∃ b, v = .ref b ∧ H b = some (.tup (ks.map kV)) := by
  cases d with
  | nd k o xs =>
    cases k with
    | tup =>
      obtain ⟨a, vs, g, e, rs, _, at_⟩ := r.nd s
      refine ⟨a, e, ?_⟩
      rw [← keysD_rps rs h]
      rcases at_ with h | ⟨h, _⟩ | ⟨h, _⟩
      · exact h
      · exact sm_tup s h
      · cases h
    | _ => cases h
  | _ => cases h
theorem dk_rd' {a : Addr} {ks : List Key} {vs : List V} {o : Bool} (s : Sm Hs H) (h : AtR G Hs H a (.dk ks) vs o) : ks.length = vs.length ∧ Rd H a (.dK (ks.zip vs)) := by
  rcases h with h | ⟨h, _⟩ | ⟨h, _⟩
  · exact ⟨h.1.1, .inl h.2⟩
  · exact ⟨h.1.1, s.rd h.2⟩
  · cases h
theorem dt_rd' {a : Addr} {ks : List (List Key)} {vs : List V} {o : Bool} (s : Sm Hs H) (h : AtR G Hs H a (.dt ks) vs o) : ks.length = vs.length ∧ Rd H a (.dT (ks.zip vs)) := by
  rcases h with h | ⟨h, _⟩ | ⟨h, _⟩
  · exact ⟨h.1.1, .inl h.2⟩
  · exact ⟨h.1.1, s.rd h.2⟩
  · cases h
/-- an item is read -/
theorem ixCore {a : Addr} {vs : List V} {w : V} {k : Kd} {o : Bool} {xs : List D} {y : D} {g : Fp} {j : Nat} (s : Sm Hs H) (at_ : AtR G Hs H a k vs o) (hl : vs.length = xs.length) (r2 : Rp G Hs H w y g) (h : cpos (.nd k o xs) y = some j) :
    ∀ u Q, vs[j]? = some u → Q u H → rIxA G.K (.ref a) w H Q := by
  intro u Q hu q
  unfold AtR at at_
  unfold cpos at h
  cases k with
  | lst =>
    have ha : H a = some (.lst vs) := by
      rcases at_ with h | ⟨h, _⟩ | ⟨h, _⟩
      · exact h
      · exact sm_lst s h
      · cases h
    dsimp only at h
    split at h
    · rw [r2.toI]
      exact .inl (.inl ⟨a, vs, _, u, rfl, rfl, SqL.of ha, by unfold atI; rw [hl, h]; exact hu, q⟩)
    · cases h
  | wl =>
    have ha : SqL G.K H a vs := by
      rcases at_ with h | ⟨h, _⟩ | ⟨_, h⟩
      · exact h
      · exact s.sqL h
      · exact h
    dsimp only at h
    split at h
    · rw [r2.toI]
      exact .inl (.inl ⟨a, vs, _, u, rfl, rfl, ha, by unfold atI; rw [hl, h]; exact hu, q⟩)
    · cases h
  | tup =>
    have ha : H a = some (.tup vs) := by
      rcases at_ with h | ⟨h, _⟩ | ⟨h, _⟩
      · exact h
      · exact sm_tup s h
      · cases h
    dsimp only at h
    split at h
    · rw [r2.toI]
      exact .inl (.inr (.inl ⟨a, vs, _, u, rfl, rfl, SqT.of ha, by unfold atI; rw [hl, h]; exact hu, q⟩))
    · cases h
  | wt =>
    have ha : SqT G.K H a vs := by
      rcases at_ with h | ⟨h, _⟩ | ⟨_, h⟩
      · exact h
      · exact s.sqT h
      · exact h
    dsimp only at h
    split at h
    · rw [r2.toI]
      exact .inl (.inr (.inl ⟨a, vs, _, u, rfl, rfl, ha, by unfold atI; rw [hl, h]; exact hu, q⟩))
    · cases h
  | dk ks =>
    obtain ⟨hk, rd⟩ := dk_rd' s at_
    obtain ⟨k, h1, h2⟩ := Option.bind_eq_some_iff.mp h
    exact .inr ⟨a, u, rfl, .inl ⟨_, k, rd, keyD_rp r2 h1, by rw [valV_kpos hk, h2]; exact hu.symm⟩, q⟩
  | dt ks =>
    obtain ⟨hk, rd⟩ := dt_rd' s at_
    obtain ⟨k, h1, h2⟩ := Option.bind_eq_some_iff.mp h
    obtain ⟨b, e2, hb⟩ := tkeyD_rp s r2 h1
    exact .inr ⟨a, u, rfl, .inr ⟨_, k, b, rd, e2, hb, by rw [valV_kpos hk, h2]; exact hu.symm⟩, q⟩
  | ins c fn => cases h
theorem rps_frzAt : ∀ {vs : List V} {ds : List D} {f : Fp} {i : Nat} {d : D}, Rps G Hs H vs ds f → ds[i]? = some d →
    ∃ (v : V) (g1 g2 : Fp), vs[i]? = some v ∧ Rp G Hs H v d g1 ∧ (∀ b, f b = g1 b + g2 b) ∧ ∀ Hs', Same Hs Hs' → (∀ b, g1 b ≠ 0 → Hs' b = H b) → (∀ b, g2 b ≠ 0 → Hs' b = none) → Rps G Hs' H vs (ds.set i (frz d)) g2
  | _, _, _, i, _, .nil _, h => by simp at h
  | _, _, _, 0, _, .cons (f := f1) (g := g1) r rs e, h => by
    simp at h; subst h
    exact ⟨_, f1, g1, rfl, r, e, fun Hs' s k1 k2 => .cons (r.frz s (f0 := f0) (fun _ => rfl) k1) (rs.mono s fun b hb => ⟨rfl, k2 b hb⟩) fun b => (Nat.zero_add _).symm⟩
  | _, _, _, i + 1, _, .cons (f := f1) (g := g1) r rs e, h => by
    obtain ⟨v, a1, a2, h1, h2, h3, h4⟩ := rps_frzAt rs (i := i) (by simpa using h)
    refine ⟨v, a1, fun b => f1 b + a2 b, by simpa using h1, h2, fun b => by rw [e b, h3 b]; show _ = a1 b + (f1 b + a2 b); omega, fun Hs' s k1 k2 => ?_⟩
    exact .cons (r.mono s fun b hb => ⟨rfl, k2 b (by show f1 b + a2 b ≠ 0; omega)⟩) (h4 Hs' s k1 fun b hb => k2 b (by show f1 b + a2 b ≠ 0; omega)) fun b => rfl
/-- one item of a node is frozen -/
theorem Ok.itemFrz {C : Cc} {Hs H : Hp} {σ : L2.St} {e : En} {fe f1 : Fp} {P : Addr → Prop} {k : Kd} {o : Bool} {xs : List D} {v : V} {j : Nat} {x : D} (ok : Ok C Hs H σ e fe f1 P) (r : Rp C.toGc Hs H v (.nd k o xs) f1) (h : xs[j]? = some x) :
    ∃ a vs u Hs' f1', v = .ref a ∧ AtR C.toGc Hs H a k vs o ∧ vs.length = xs.length ∧ vs[j]? = some u ∧ Aft Hs H Hs' H P ∧ Ok C Hs' H σ e fe f1' P ∧ Rp C.toGc Hs' H u (frz x) f0 ∧ Rp C.toGc Hs' H v (if o then .nd k o (xs.set j (frz x)) else .nd k o xs) f1' := by
  cases r with
  | @sh a _ vs _ _ h1 rs z =>
    obtain ⟨u, g1, g2, hu, ru, eg, _⟩ := rs.get h
    have zg : ∀ b, g1 b = 0 := fun b => by have := eg b; have := z b; omega
    exact ⟨a, vs, u, Hs, f1, rfl, .sh ok.sm h1, rs.len, hu, Aft.refl _ _ _, ok, ru.frz (Same.refl _) (fun _ => rfl) fun b hb => absurd (zg b) hb, .sh h1 rs z⟩
  | @own a _ vs _ f _ h1 w n rs e1 =>
    obtain ⟨u, g1, g2, hu, ru, eg, k⟩ := rps_frzAt rs h
    have ok' : Ok C Hs H σ e fe (fun b => g1 b + (g2 b + if b = a then 1 else 0)) P := ok.fps (fun _ => rfl) fun b => by rw [e1 b, eg b]; omega
    obtain ⟨Hs', af, ok2, he⟩ := ok'.fz
    have k1 : ∀ b, g1 b ≠ 0 → Hs' b = H b := fun b hb => by rw [he b, if_pos hb]
    have k2 : ∀ b, g2 b + (if b = a then 1 else 0) ≠ 0 → Hs' b = none := fun b hb => by
      have := ok'.wf.one b
      rw [he b, if_neg (by omega)]
      exact ok'.wf.own b (by omega)
    refine ⟨a, vs, u, Hs', _, rfl, .inl h1, rs.len, hu, af, ok2, ru.frz af.sh (fun _ => rfl) k1, ?_⟩
    rw [if_pos rfl]
    exact .own h1 w (k2 a (by rw [if_pos rfl]; omega)) (k Hs' af.sh k1 fun b hb => k2 b (by omega)) fun b => rfl
theorem idxS : OpS G (rIxA G.K) idxD := by
  intro Hs H v1 v2 d1 d2 z Q s r1 r2 hz q
  unfold idxD at hz
  split at hz
  · split at hz
    · split at hz
      · rename_i h
        obtain ⟨c, h1, rfl⟩ := Option.map_eq_some_iff.mp hz
        rw [r1.toS, r2.toI]
        exact .inl (.inr (.inr ⟨_, _, c, rfl, rfl, lim_le h, h1, res0 s q (r_str _)⟩))
      · cases hz
    · cases hz
  · obtain ⟨j, h1, h2⟩ := Option.bind_eq_some_iff.mp hz
    obtain ⟨a, vs, f', rfl, rs, le, at_⟩ := r1.nd s
    obtain ⟨u, hu, ru⟩ := (rs.z le).at h2
    exact ixCore s at_ rs.len r2 h1 u Q hu (res0 s q ru)
  · cases hz
end

/-- x[y], x a slot's name: the slot stays as it is, the item is frozen there -/
def eIxN (i : Nat) (b : FE) : FE := fun e => match e.sl[i]? with
  | some (some _) => (b e).bind fun y e1 => match e1.sl[i]? with
    | some (some d) => .opt ((refD d (frz y)).map (·.1)) (match refD d (frz y) with | some (_, d') => { e1 with sl := e1.sl.set i (some d') } | none => e1)
    | _ => .bad
  | _ => .bad
section
variable {X : Cx} {C : Cc} {W : WX} {pos : Pos} {a b c : Expr} {es : List Expr} {Fa Fb Fc : FE} {As : FA}
theorem be_ix (hu : X.A.units + 1 < cLine) (hk : X.K = C.K) (ha : BE X C W a Fa) (hb : BE X C W b Fb) (hs : PlainIx b) : BE X C W (.Subscript a b pos) (eBin idxD Fa Fb) :=
  (pe_ix (ix_A hu) ha hb hs).imp fun σ H Q ⟨e, Hs, fe, P, ok, q⟩ => by
    refine firstE ok q.bind fun d1 e1 v1 Hs1 H1 fe1 fv1 a1 ok1 r1 q1 => ?_
    refine bindE ok1 (.rp r1) (q1.shift a1).bind fun d2 e2 v2 Hs2 H2 fe2 fv2 a2 ok2 r1 r2 q2 => ?_
    obtain ⟨Hs3, a3, ok3, r1', r2'⟩ := ok2.frzX r1 (.rp r2)
    obtain ⟨Hs4, a4, ok4, r2'', r1''⟩ := (ok3.fps (fun _ => rfl) (fx' := fun b => fv2 b + f0 b) fun _ => rfl).frzX r2' (.rp r1')
    have q3 := (q2.shift (a2.weak fun b hb => .inl hb)).shift (a3.trans a4)
    cases hz : idxD (frz d1) (frz d2) with
    | none => rw [hz] at q3; exact q3.elim
    | some z =>
      rw [hz] at q3
      rw [hk]
      exact idxS (G := C.toGc) ok4.sm r1'' r2'' hz fun v Hs5 H5 fv n rz => q3 v Hs5 H5 fe2 fv (n.aft ok4) ((ok4.new n fun _ h => absurd rfl h).fps (fun _ => rfl) fun _ => (Nat.zero_add _).symm) rz
/-- a slot's data changed in place to data with less that is owned -/
theorem Ok.slot {Hs H : Hp} {σ : L2.St} {e : En} {fe fx : Fp} {P : Addr → Prop} {i : Nat} {d : D} (ok : Ok C Hs H σ e fe fx P) (h1 : e.sl[i]? = some (some d)) :
    ∃ (v : V) (f1 f2 : Fp), σ[i]? = some (some v) ∧ Rp C.toGc Hs H v d f1 ∧ (∀ b, fe b = f1 b + f2 b) ∧ Ok C Hs H σ { e with sl := e.sl.set i none } f2 (fun b => f1 b + fx b) P ∧
      ∀ {Hs' H' : Hp} {f1' : Fp} {d' : D} {e' : En} {fx' : Fp}, Ok C Hs' H' σ { e' with sl := e.sl.set i none } f2 (fun b => f1' b + fx' b) P → Rp C.toGc Hs' H' v d' f1' → Ok C Hs' H' σ { e' with sl := e.sl.set i (some d') } (fun b => f1' b + f2 b) fx' P := by
  obtain ⟨v, f1, f2, e1, r1, e2, s2⟩ := ok.sl.get h1
  have hi : i < e.sl.length := (List.getElem?_eq_some_iff.mp h1).1
  refine ⟨v, f1, f2, e1, r1, e2, ⟨⟨ok.wf.sm, fun b => by have := ok.wf.one b; have := e2 b; omega, fun b hb => ok.wf.own b (by have := e2 b; omega), fun b hb => by have := ok.wf.apart b hb; have := e2 b; omega, ok.wf.live⟩, s2, ok.pn, ok.ex⟩, ?_⟩
  intro Hs' H' f1' d' e' fx' ok' r'
  have s3 := ok'.sl.put (i := i) (h := fun b => f1' b + f2 b) (by rw [List.getElem?_set_self hi]) r' fun b => rfl
  rw [List.set_set] at s3
  have e4 : σ.set i (some v) = σ := by
    obtain ⟨hl, hv⟩ := List.getElem?_eq_some_iff.mp e1
    rw [← hv]; exact List.set_getElem_self hl
  rw [e4] at s3
  exact ⟨⟨ok'.wf.sm, fun b => by have := ok'.wf.one b; omega, fun b hb => ok'.wf.own b (by omega), fun b hb => by have := ok'.wf.apart b hb; omega, ok'.wf.live⟩, s3, ok'.pn, ok'.ex⟩
theorem be_ixN {i : Nat} (hu : X.A.units + 1 < cLine) (hk : X.K = C.K) (ha : PE X a (tVar i)) (hb : BE X C W b Fb) (hs : PlainIx b) : BE X C W (.Subscript a b pos) (eIxN i Fb) :=
  (pe_ix (ix_A hu) ha hb hs).imp fun σ H Q ⟨e, Hs, fe, P, ok, q⟩ => by
    unfold eIxN at q
    cases h1 : e.sl[i]? with
    | none => rw [h1] at q; exact q.elim
    | some o =>
      cases o with
      | none => rw [h1] at q; exact q.elim
      | some d0 =>
        rw [h1] at q
        obtain ⟨v0, _, _, e1, _⟩ := ok.sl.get h1
        refine ⟨v0, e1, ?_⟩
        refine firstE ok (EndE.bind q) fun y e2 v2 Hs2 H2 fe2 fv2 a2 ok2 r2 q2 => ?_
        obtain ⟨Hs3, a3, ok3, r2', _⟩ := (ok2.fps (fun _ => rfl) (fx' := fun b => fv2 b + f0 b) fun _ => rfl).frzX r2 Held.tr
        have q3 := q2.shift (a2.trans a3)
        cases h2 : e2.sl[i]? with
        | none => rw [h2] at q3; exact q3.elim
        | some o =>
          cases o with
          | none => rw [h2] at q3; exact q3.elim
          | some d =>
            rw [h2] at q3
            dsimp only at q3
            cases hz : refD d (frz y) with
            | none => rw [hz] at q3; exact q3.elim
            | some zd =>
              obtain ⟨z, d'⟩ := zd
              rw [hz] at q3
              obtain ⟨v, f1, f2, e3, r1, e4, ok4, put⟩ := ok3.slot h2
              rw [e1] at e3; cases e3
              rw [hk]
              have simple : (idxD d (frz y)).map (fun z => (z, d)) = some (z, d') → (∀ k o xs, d ≠ .nd k o xs) → rIxA C.K v0 v2 H2 Q := fun h hn => by
                obtain ⟨z', h3, h4⟩ := Option.map_eq_some_iff.mp h
                cases h4
                have hd : d.sc = true := by cases d <;> first | rfl | exact absurd rfl (hn _ _ _)
                refine idxS (G := C.toGc) ok3.sm (r1.f0 hd) r2' h3 fun v Hs5 H5 fv n rz => ?_
                have e5 : { e2 with sl := e2.sl.set i (some d) } = e2 := by
                  have : e2.sl.set i (some d) = e2.sl := by
                    obtain ⟨hl, hv⟩ := List.getElem?_eq_some_iff.mp h2
                    rw [← hv]; exact List.set_getElem_self hl
                  rw [this]
                exact q3 v Hs5 H5 fe2 fv (n.aft ok3) (by
                  show Ok C Hs5 H5 σ { e2 with sl := e2.sl.set i (some d) } fe2 fv P
                  rw [e5]
                  exact (ok3.new n fun _ h => absurd rfl h).fps (fun _ => rfl) fun _ => (Nat.zero_add _).symm) rz
              cases d with
              | nd k o xs =>
                unfold refD at hz
                obtain ⟨j, h3, h4⟩ := Option.bind_eq_some_iff.mp hz
                obtain ⟨x, h5, h6⟩ := Option.map_eq_some_iff.mp h4
                cases h6
                have ok4' : Ok C Hs3 H2 σ { e2 with sl := e2.sl.set i none } f2 f1 P := ok4.fps (fun _ => rfl) fun b => rfl
                obtain ⟨a, vs, u, Hs4, f1', rfl, at_, hl, hu', af, ok5, ru, rn⟩ := ok4'.itemFrz r1 h5
                refine ixCore (G := C.toGc) ok3.sm at_ hl r2' h3 u Q hu' ?_
                exact q3 u Hs4 H2 _ f0 af (put (e' := e2) (ok5.fps (fun _ => rfl) fun b => rfl) rn) ru
              | non => exact simple hz (fun _ _ _ h => by cases h)
              | bl _ => exact simple hz (fun _ _ _ h => by cases h)
              | int _ => exact simple hz (fun _ _ _ h => by cases h)
              | str _ => exact simple hz (fun _ _ _ h => by cases h)
              | ty _ => exact simple hz (fun _ _ _ h => by cases h)
end
end Bx

set_option Elab.async false
set_option linter.all false
set_option maxRecDepth 100000
set_option maxHeartbeats 1000000
/-! Statements. -/
namespace Bx
open PySem L2

def En.put (e : En) (i : Nat) (d : D) : En := { e with sl := e.sl.set i (some d) }
def En.del (e : En) (i : Nat) : En := { e with sl := e.sl.set i none }
/-- targets -/
abbrev FG := D → En → Option En
/-- two frames that differ at ts alone -/
def Tch (ts : List Nat) (σ σ' : L2.St) : Prop := σ'.length = σ.length ∧ ∀ i, i ∉ ts → σ'[i]? = σ[i]?
def canG (C : Cc) (ts : List Nat) (g : FG) : TG := fun v σ H Q => ∃ e Hs fe fv P d e', Ok C Hs H σ e fe fv P ∧ Rp C.toGc Hs H v d fv ∧ g d e = some e' ∧ ∀ σ' Hs' H' fe', Tch ts σ σ' → Aft Hs H Hs' H' P → Ok C Hs' H' σ' e' fe' f0 P → Q σ' H'
def BG (X : Cx) (C : Cc) (tg : Expr) (ts : List Nat) (g : FG) : Prop := PG X tg (canG C ts g)
theorem _root_.L2.PG.imp {X : Cx} {e : Expr} {t t' : TG} (h : PG X e t) (i : ∀ v σ H Q, t' v σ H Q → t v σ H Q) : PG X e t' := ⟨fun pins s σ H v u Q I r q => h.run pins s σ H v u Q I r (i _ _ _ _ q)⟩
def gN (i : Nat) : FG := fun d e => if i < e.sl.length then some (e.put i d) else none
def npin (C : Cc) (i : Nat) : Prop := ∀ p ∈ C.pins, p.1 ≠ i

def fSeq (s t : FS) : FS := fun e => match s e with
  | .nx e1 => t e1
  | r => r
def fNext : FS := fun e => .nx e
def fAsg (g : FG) (a : FE) : FS := fun e => (a e).toS fun d e1 => match g d e1 with
  | some e2 => .nx e2
  | none => .bad
def fIf (c : FT) (t u : FS) : FS := fun e => (c e).toS fun k e1 => if k then t e1 else u e1
def fRet (a : FE) : FS := fun e => (a e).toS fun d e1 => .rt d e1
def fRetN : FS := fun e => .rt .non e
/-- return x: the slot is given away -/
def fRetV (i : Nat) : FS := fun e => match e.sl[i]? with
  | some (some d) => .rt d (e.del i)
  | _ => .bad
def fExpr (a : FE) : FS := fun e => (a e).toS fun _ e1 => .nx e1
def fBreak : FS := fun e => .bk e
def fCont : FS := fun e => .ct e

section
variable {X : Cx} {C : Cc} {W : WX} {pos : Pos} {a b c : Expr} {es : List Expr} {Fa Fb Fc : FE} {Ta : FT} {As : FA} {st : Stmt} {sts : List Stmt} {S T : FS}
/-- a value goes into a slot -/
theorem Ok.put {Hs H : Hp} {σ : L2.St} {e : En} {fe fv fx : Fp} {P : Addr → Prop} {i : Nat} {v : V} {d : D} (ok : Ok C Hs H σ e fe (fun b => fv b + fx b) P) (r : Rp C.toGc Hs H v d fv) (hi : i < e.sl.length) (hp : npin C i) :
    ∃ fe', Ok C Hs H (σ.set i (some v)) (e.put i d) fe' fx P := by
  obtain ⟨f1, f2, h1, s2⟩ := ok.sl.forget i
  have s3 := s2.put (i := i) (h := fun b => fv b + f2 b) (by rw [List.getElem?_set_self hi]) r fun b => rfl
  rw [List.set_set] at s3
  refine ⟨fun b => fv b + f2 b, ⟨ok.wf.sm, fun b => by have := ok.wf.one b; have := h1 b; omega, fun b hb => ok.wf.own b (by have := h1 b; omega), fun b hb => by have := ok.wf.apart b hb; have := h1 b; omega, ok.wf.live⟩, s3, fun p hpp => ?_, ok.ex⟩
  rw [List.getElem?_set_ne (Ne.symm (hp p hpp))]
  exact ok.pn p hpp
theorem Ok.del {Hs H : Hp} {σ : L2.St} {e : En} {fe fx : Fp} {P : Addr → Prop} (i : Nat) (ok : Ok C Hs H σ e fe fx P) : ∃ fe', Ok C Hs H σ (e.del i) fe' fx P := by
  obtain ⟨f1, f2, h1, s2⟩ := ok.sl.forget i
  exact ⟨f2, ⟨ok.wf.sm, fun b => by have := ok.wf.one b; have := h1 b; omega, fun b hb => ok.wf.own b (by have := h1 b; omega), fun b hb => by have := ok.wf.apart b hb; have := h1 b; omega, ok.wf.live⟩, s2, ok.pn, ok.ex⟩
theorem bg_name {i : Nat} (h : PG X a (gName i)) (hp : npin C i) : BG X C a [i] (gN i) := h.imp fun v σ H Q ⟨e, Hs, fe, fv, P, d, e', ok, r, hg, k⟩ => by
  unfold gN at hg
  split at hg
  · rename_i hi
    cases hg
    obtain ⟨fe', ok'⟩ := (ok.fps (fun _ => rfl) (fx' := fun b => fv b + f0 b) fun _ => rfl).put r hi hp
    exact k _ Hs H fe' ⟨List.length_set, fun j hj => List.getElem?_set_ne fun z => hj (List.mem_singleton.mpr z.symm)⟩ (Aft.refl _ _ _) ok'
  · cases hg
theorem bs_asg {tg : Expr} {ts : List Nat} {g : FG} (hp : ∀ te gg, PE X a te → PG X tg gg → PS X st (tAsg te gg)) (ha : BE X C W a Fa) (hg : BG X C tg ts g) : BS X C W st (fAsg g Fa) :=
  (hp _ _ ha hg).imp fun N σ H ⟨e, Hs, fe, P, ok, q⟩ => by
    refine firstE ok (q.bind σ) fun d e1 v Hs1 H1 fe1 fv1 a1 ok1 r1 q1 => ?_
    cases h : g d e1 with
    | none => rw [h] at q1; exact q1.elim
    | some e2 =>
      rw [h] at q1
      exact ⟨e1, Hs1, fe1, fv1, P, d, e2, ok1, r1, h, fun σ' Hs' H' fe' _ a2 ok2 => q1 σ' Hs' H' fe' (a1.trans a2) ok2⟩
theorem bs_set {i : Nat} {x : Str} {pos' : Pos} (hN : X.N.Nodup) (hi : X.N[i]? = some x) (hl : Loc X.env.scope x) (hp : npin C i) (ha : BE X C W a Fa)
    (hs : swapsWith a (some (.Name x pos')) pos.line X.env = pure false) (hf : X.fn x = true ∨ X.env.scope.names.lookup x = some .local) : BS X C W (.Assign [.Name x pos'] a pos) (fAsg (gN i) Fa) :=
  (ps_set hN hi hl ha hs hf).imp fun N σ H ⟨e, Hs, fe, P, ok, q⟩ => by
    refine firstE ok (q.bind σ) fun d e1 v Hs1 H1 fe1 fv1 a1 ok1 r1 q1 => ?_
    unfold gN at q1
    by_cases hi : i < e1.sl.length
    · rw [if_pos hi] at q1
      obtain ⟨fe', ok'⟩ := (ok1.fps (fun _ => rfl) (fx' := fun b => fv1 b + f0 b) fun _ => rfl).put r1 hi hp
      exact q1 _ Hs1 H1 fe' a1 ok'
    · rw [if_neg hi] at q1; exact q1.elim
theorem bs_if {sts' : List Stmt} (hc : BT X C W c Ta) (h1 : BSs X C W sts S) (h2 : BSs X C W sts' T) : BS X C W (.If c sts sts' pos) (fIf Ta S T) :=
  (ps_if hc h1 h2).imp fun N σ H ⟨e, Hs, fe, P, ok, q⟩ => by
    refine firstT ok (q.bind σ) fun k e1 Hs1 H1 fe1 a1 ok1 q1 => ?_
    cases k with
    | true => exact iteT ⟨e1, Hs1, fe1, P, ok1, q1.shift a1⟩
    | false => exact iteF ⟨e1, Hs1, fe1, P, ok1, q1.shift a1⟩
theorem bss_nil : BSs X C W [] fNext := pss_nil.imp fun N σ H ⟨e, Hs, fe, P, ok, q⟩ => q σ Hs H fe (Aft.refl _ _ _) ok
theorem bss_one (h : BS X C W st S) : BSs X C W [st] S := pss_one h
theorem bss_cons (h : BS X C W st S) (h2 : BSs X C W sts T) : BSs X C W (st :: sts) (fSeq S T) :=
  (pss_cons h h2).imp fun N σ H ⟨e, Hs, fe, P, ok, q⟩ => by
    refine ⟨e, Hs, fe, P, ok, ?_⟩
    unfold fSeq at q
    generalize S e = r at q ⊢
    cases r with
    | nx e1 => exact fun σ' Hs' H' fe' a1 ok1 => ⟨e1, Hs', fe', P, ok1, q.shift a1⟩
    | bad => exact q
    | bk e1 => exact q
    | ct e1 => exact q
    | rt d e1 => exact q
    | exc x e1 => exact q
theorem bs_ret (ha : BE X C W a Fa) : BS X C W (.Return (some a) pos) (fRet Fa) :=
  (ps_ret ha).imp fun N σ H ⟨e, Hs, fe, P, ok, q⟩ => by
    refine firstE ok (q.bind σ) fun d e1 v Hs1 H1 fe1 fv1 a1 ok1 r1 q1 => ?_
    exact q1 v σ Hs1 H1 fe1 fv1 a1 ok1 r1
theorem bs_retN : BS X C W (.Return none pos) fRetN :=
  ps_retN.imp fun N σ H ⟨e, Hs, fe, P, ok, q⟩ => q .non σ Hs H fe f0 (Aft.refl _ _ _) ok r_non
theorem bs_retV {i : Nat} (ha : PE X a (tVar i)) : BS X C W (.Return (some a) pos) (fRetV i) :=
  (ps_ret ha).imp fun N σ H ⟨e, Hs, fe, P, ok, q⟩ => by
    unfold fRetV at q
    cases h1 : e.sl[i]? with
    | none => rw [h1] at q; exact q.elim
    | some o =>
      cases o with
      | none => rw [h1] at q; exact q.elim
      | some d =>
        rw [h1] at q
        obtain ⟨v, f1, f2, e1, r1, e2, ok', _⟩ := ok.slot h1
        exact ⟨v, e1, q v σ Hs H f2 f1 (Aft.refl _ _ _) (ok'.fps (fun _ => rfl) fun b => rfl) r1⟩
theorem bs_expr (ha : BE X C W a Fa) (hs : swapsWith a none pos.line X.env = pure false) : BS X C W (.Expr a pos) (fExpr Fa) :=
  (ps_expr ha hs).imp fun N σ H ⟨e, Hs, fe, P, ok, q⟩ => by
    refine firstE ok (q.bind σ) fun d e1 v Hs1 H1 fe1 fv1 a1 ok1 r1 q1 => ?_
    exact q1 σ Hs1 H1 fe1 a1 (ok1.less fun _ => Nat.zero_le _)
theorem bs_pass : BS X C W (.Pass pos) fNext := ps_pass.imp fun N σ H ⟨e, Hs, fe, P, ok, q⟩ => q σ Hs H fe (Aft.refl _ _ _) ok
theorem bs_break : BS X C W (.Break pos) fBreak := ps_break.imp fun N σ H ⟨e, Hs, fe, P, ok, q⟩ => q σ Hs H fe (Aft.refl _ _ _) ok
theorem bs_cont : BS X C W (.Continue pos) fCont := ps_continue.imp fun N σ H ⟨e, Hs, fe, P, ok, q⟩ => q σ Hs H fe (Aft.refl _ _ _) ok
end

/-! ### a, b = .. -/
abbrev FGs := List D → En → Option En
def gsNil : FGs := fun ds e => match ds with
  | [] => some e
  | _ => none
def gsCons (g : FG) (r : FGs) : FGs := fun ds e => match ds with
  | d :: ds => (g d e).bind (r ds)
  | [] => none
def gT (n : Nat) (r : FGs) : FG := fun d e => match frz d with
  | .nd .tup _ xs => if xs.length = n then r xs e else none
  | .nd .wt _ xs => if xs.length = n then r xs e else none
  | _ => none
def canGs (C : Cc) (ts : List Nat) (g : FGs) : TGs := fun vs σ H Q => ∃ e Hs fe P ds e', Ok C Hs H σ e fe f0 P ∧ Rps C.toGc Hs H vs ds f0 ∧ g ds e = some e' ∧ ∀ σ' Hs' H' fe', Tch ts σ σ' → Aft Hs H Hs' H' P → Ok C Hs' H' σ' e' fe' f0 P → Q σ' H'
def BGs (X : Cx) (C : Cc) (tg : List Expr) (ts : List Nat) (g : FGs) : Prop := PGs X tg (canGs C ts g)
theorem _root_.L2.PGs.imp {X : Cx} {e : List Expr} {t t' : TGs} (h : PGs X e t) (i : ∀ v σ H Q, t' v σ H Q → t v σ H Q) : PGs X e t' := ⟨fun pins s σ H v u Q I r q => h.run pins s σ H v u Q I r (i _ _ _ _ q)⟩
section
variable {X : Cx} {C : Cc} {W : WX} {pos : Pos} {a : Expr} {es : List Expr} {g : FG} {gs : FGs}
theorem bgs_nil : BGs X C [] [] gsNil := pgs_nil.imp fun vs σ H Q ⟨e, Hs, fe, P, ds, e', ok, r, hg, k⟩ => by
  cases r with
  | nil z => cases hg; exact ⟨rfl, k σ Hs H fe ⟨rfl, fun _ _ => rfl⟩ (Aft.refl _ _ _) ok⟩
  | cons r rs q => cases hg
theorem bgs_cons {ts us : List Nat} (hg : BG X C a ts g) (hs : BGs X C es us gs) (he : (assignEach (a :: es) X.env).map (·.2) = assign a X.env :: (assignEach es X.env).map (·.2)) : BGs X C (a :: es) (ts ++ us) (gsCons g gs) :=
  (pgs_cons hg hs he).imp fun vs σ H Q ⟨e, Hs, fe, P, ds, e', ok, r, hg, k⟩ => by
    cases r with
    | nil z => cases hg
    | @cons v d f vs ds g' _ r rs q =>
      obtain ⟨e1, h1, h2⟩ := Option.bind_eq_some_iff.mp hg
      have hf : ∀ b, f b = 0 := fun b => by have := q b; simp only [f0] at this; omega
      have hg' : ∀ b, g' b = 0 := fun b => by have := q b; simp only [f0] at this; omega
      refine ⟨v, vs, rfl, e, Hs, fe, f0, P, d, e1, ok, r.fp fun b => (hf b).symm, h1, fun σ1 Hs1 H1 fe1 t1 a1 ok1 => ?_⟩
      exact ⟨e1, Hs1, fe1, P, ds, e', ok1, (rs.mono (H' := H1) a1.sh fun b hb => absurd (hg' b) hb).fp fun b => (hg' b).symm, h2, fun σ' Hs' H' fe' t2 a2 ok2 => k σ' Hs' H' fe' ⟨t2.1.trans t1.1, fun i hi => (t2.2 i fun z => hi (List.mem_append_right _ z)).trans (t1.2 i fun z => hi (List.mem_append_left _ z))⟩ (a1.trans a2) ok2⟩
theorem bg_tup {n kk : Nat} {ts : List Nat} (hc : X.calm = true) (hk : X.K = C.K) (hs : BGs X C es ts gs) (h1 : (assignEach es X.env).length = n) (h2 : (assignEach es X.env).findIdx? (·.1) = none) : BG X C (.Tuple es kk pos) ts (gT n gs) :=
  (pg_tup hc hs h1 h2).imp fun v σ H Q ⟨e, Hs, fe, fv, P, d, e', ok, r, hg, k⟩ => by
    obtain ⟨Hs1, a1, ok1, r1, _⟩ := (ok.fps (fun _ => rfl) (fx' := fun b => fv b + f0 b) fun _ => rfl).freeze r
    unfold gT at hg
    have main : ∀ (b : Bool) xs, (frz d).seq = some (b, xs) → b = false → xs.length = n → gs xs e = some e' → gTup X.K n (canGs C ts gs) v σ H Q := fun b xs hsq hb hl hx => by
      obtain ⟨p, vs, g', rfl, _, hT, rs, le⟩ := r1.seq ok1.sm hsq
      refine ⟨p, vs, rfl, by rw [hk]; exact hT hb, by rw [rs.len]; exact hl, e, Hs1, fe, P, xs, e', ok1, rs.z le, hx, fun σ' Hs' H' fe' t2 a2 ok2 => k σ' Hs' H' fe' t2 (a1.trans a2) ok2⟩
    split at hg
    · rename_i o xs he
      split at hg
      · rename_i hl
        exact main false xs (by rw [he]; rfl) rfl hl hg
      · cases hg
    · rename_i o xs he
      split at hg
      · rename_i hl
        exact main false xs (by rw [he]; rfl) rfl hl hg
      · cases hg
    · cases hg
end
end Bx

set_option Elab.async false
set_option linter.all false
set_option maxRecDepth 100000
set_option maxHeartbeats 1000000
/-! Walks: for, while, list comprehensions. -/
namespace Bx
open PySem L2

abbrev FI := En → Rs (List D)
/-- the walk J gives the items xs as long as the frozen part stands -/
structure JOk (G : Gc) (J : It) (xs : List D) (Hs : Hp) : Prop where
  stop : ∀ Hs2 H2, Same Hs Hs2 → Sm Hs2 H2 → J.stop xs.length H2
  go : ∀ Hs2 H2 i d, Same Hs Hs2 → Sm Hs2 H2 → xs[i]? = some d → J.go i H2
  yld : ∀ Hs2 H2 i d x H', Same Hs Hs2 → Sm Hs2 H2 → xs[i]? = some d → J.yld i H2 x H' → ∃ Hs3, New Hs2 H2 Hs3 H' f0 ∧ Rp G Hs3 H' x d f0
section
variable (C : Cc) (W : WX)
def EndI (r : Rs (List D)) (Hs H : Hp) (P : Addr → Prop) (σ : L2.St) (R : It → Hp → Prop) : Prop := match r with
  | .bad => False
  | .ok xs e' => ∀ J Hs' H' fe', Aft Hs H Hs' H' P → Ok C Hs' H' σ e' fe' f0 P → JOk C.toGc J xs Hs' → R J H'
  | .exc x e' => XcK C W Hs H P σ x e'
def canI (F : FI) : TI := fun σ H R => ∃ e Hs fe P, Ok C Hs H σ e fe f0 P ∧ EndI C W (F e) Hs H P σ R
end
def BI (X : Cx) (C : Cc) (W : WX) (tg e : Expr) (F : FI) : Prop := PI X tg e (canI C W F)
theorem _root_.L2.PI.imp {X : Cx} {tg e : Expr} {t t' : TI} (h : PI X tg e t) (i : ∀ σ H R, t' σ H R → t σ H R) : PI X tg e t' := ⟨fun pins s σ H R I q => h.run pins s σ H R I (i _ _ _ q)⟩
theorem _root_.L2.PI.or {X : Cx} {tg e : Expr} {t t' : TI} (h : PI X tg e t) (h' : PI X tg e t') : PI X tg e (fun σ H R => t σ H R ∨ t' σ H R) :=
  ⟨fun pins s σ H R I q => q.elim (h.run pins s σ H R I) (h'.run pins s σ H R I)⟩

/-- the items of a walked value -/
def itsD : D → Option (List D)
  | .str x => if x.cps.size ≤ lim then some (x.cps.toList.map fun c => .str ⟨#[c]⟩) else none
  | d => (d.seq).map (·.2)
def iE (a : FE) : FI := fun e => (a e).bind fun d e1 => .opt (itsD (frz d)) e1
def rngD (lo : Int) (n : Nat) : List D := (List.range n).map fun (i : Nat) => .int (lo + (i : Int))
/-- range(n), range(a, b) -/
def rngA1 (ds : List D) : Option (List D) := match ds with
  | [.int j] => if j.natAbs < 2 ^ 62 then some (rngD 0 j.toNat) else none
  | _ => none
def rngA2 (ds : List D) : Option (List D) := match ds with
  | [.int i, .int j] => if i.natAbs < 2 ^ 62 ∧ j.natAbs < 2 ^ 62 then some (rngD i (j - i).toNat) else none
  | _ => none
def iRng1 (as : FA) : FI := fun e => (as e).bind fun as e1 => .opt ((dvs as).bind rngA1) e1
def iRng2 (as : FA) : FI := fun e => (as e).bind fun as e1 => .opt ((dvs as).bind rngA2) e1
/-- enumerate of a list -/
def enumD (n : Nat) : List D → List D
  | [] => []
  | x :: xs => .nd .tup false [.int n, x] :: enumD (n + 1) xs
def iEnu (as : FA) : FI := fun e => (as e).bind fun as e1 => .opt ((dvs as).bind fun ds => match frzs ds with
  | [d] => (match d.seq with
    | some (true, xs) => some (enumD 0 xs)
    | _ => none)
  | _ => none) e1

/-- the turns of a for -/
def forL (g : FG) (body : FS) : List D → FS
  | [], e => .nx e
  | x :: xs, e => match g x e with
    | none => .bad
    | some e1 => match body e1 with
      | .nx e2 => forL g body xs e2
      | .ct e2 => forL g body xs e2
      | .bk e2 => .nx e2
      | r => r
def fFor (it : FI) (g : FG) (body : FS) : FS := fun e => (it e).toS fun xs e1 => forL g body xs e1
/-- the turns of a while, at most n -/
def whN (c : FT) (body : FS) : Nat → FS
  | 0, _ => .bad
  | n + 1, e => (c e).toS fun k e1 => if k then (match body e1 with
      | .nx e2 => whN c body n e2
      | .ct e2 => whN c body n e2
      | .bk e2 => .nx e2
      | r => r) else .nx e1
open Classical in
noncomputable def fWh (c : FT) (body : FS) : FS := fun e => if h : ∃ n, whN c body n e ≠ .bad then whN c body h.choose e else .bad
/-- what must not raise -/
def Rs.nox {α : Type} (r : Rs α) : Rs α := match r with
  | .exc _ _ => .bad
  | r => r
def delL (e : En) : List Nat → En
  | [] => e
  | v :: vs => (delL e vs).del v
/-- the turns of a list comprehension -/
def lcL (vs : List Nat) (g : FG) (tt : FT) (el : FE) : List D → List D → En → Rs (List D)
  | [], acc, e => .ok acc e
  | x :: xs, acc, e => match g x e with
    | none => .bad
    | some e1 => (tt e1).nox.bind fun k e2 => if k then (el e2).nox.bind fun y e3 => (if acc.length < lim then lcL vs g tt el xs (acc ++ [y]) (delL e3 vs) else .bad) else lcL vs g tt el xs acc (delL e2 vs)
def eLc (vs : List Nat) (it : FI) (g : FG) (tt : FT) (el : FE) : FE := fun e => (it e).bind fun xs e1 => (lcL vs g tt el xs [] (delL e1 vs)).bind fun acc e2 => .ok (.nd .lst true acc) e2
def tYesF : FT := fun e => .ok true e

section
variable {X : Cx} {C : Cc} {W : WX} {pos : Pos} {a b c tg : Expr} {es : List Expr} {Fa Fb Fc : FE} {Ta : FT} {As : FA} {st : Stmt} {sts : List Stmt} {S T : FS}
theorem EndI.bind {α : Type} {r : Rs α} {k : α → En → Rs (List D)} {Hs H : Hp} {P : Addr → Prop} {σ : L2.St} {R : It → Hp → Prop} (h : EndI C W (r.bind k) Hs H P σ R) : EndZ C W r Hs H P σ fun d e' => r = .ok d e' ∧ EndI C W (k d e') Hs H P σ R := by
  cases r with
  | bad => exact h
  | ok d e' => exact ⟨rfl, h⟩
  | exc x e' => exact h
theorem EndI.shift {r : Rs (List D)} {Hs H Hs' H' : Hp} {P : Addr → Prop} {σ : L2.St} {R : It → Hp → Prop} (h : EndI C W r Hs H P σ R) (a : Aft Hs H Hs' H' P) : EndI C W r Hs' H' P σ R := by
  cases r with
  | bad => exact h
  | ok d e' => exact fun J H2s H2 fe' b ok j => h J H2s H2 fe' (a.trans b) ok j
  | exc x e' => exact XcK.shift h a
/-- frozen items stand in the frozen part -/
theorem rp_seqS {G : Gc} {Hs H : Hp} {v : V} {d : D} {b : Bool} {xs : List D} (r : Rp G Hs H v d f0) (h : d.seq = some (b, xs)) :
    ∃ p vs, v = .ref p ∧ (b = true → SqL G.K Hs p vs) ∧ (b = false → SqT G.K Hs p vs) ∧ Rps G Hs H vs xs f0 := by
  cases r with
  | @sh p k vs _ _ h1 rs z =>
    refine ⟨p, vs, rfl, ?_⟩
    cases k with
    | lst => cases h; exact ⟨fun _ => SqL.of h1, (fun z => nomatch z), rs⟩
    | wl => cases h; exact ⟨fun _ => h1, (fun z => nomatch z), rs⟩
    | tup => cases h; exact ⟨(fun z => nomatch z), fun _ => SqT.of h1, rs⟩
    | wt => cases h; exact ⟨(fun z => nomatch z), fun _ => h1, rs⟩
    | _ => cases h
  | own _ _ _ _ e => have := e ‹Addr›; rw [if_pos rfl] at this; simp only [f0] at this; omega
  | _ => cases h
theorem jok_seqL {G : Gc} {Hs H : Hp} {p : Addr} {vs : List V} {xs : List D} (h : SqL G.K Hs p vs) (rs : Rps G Hs H vs xs f0) : (∀ Hs2 H2, Same Hs Hs2 → Sm Hs2 H2 → SqL G.K H2 p vs) ∧ ∀ Hs2 H2, Same Hs Hs2 → Rps G Hs2 H2 vs xs f0 :=
  ⟨fun Hs2 H2 s m => m.sqL (Same.seq s h), fun Hs2 H2 s => rs.mono s fun b hb => absurd rfl hb⟩
theorem jok_seqT {G : Gc} {Hs H : Hp} {p : Addr} {vs : List V} {xs : List D} (h : SqT G.K Hs p vs) (rs : Rps G Hs H vs xs f0) : (∀ Hs2 H2, Same Hs Hs2 → Sm Hs2 H2 → SqT G.K H2 p vs) ∧ ∀ Hs2 H2, Same Hs Hs2 → Rps G Hs2 H2 vs xs f0 :=
  ⟨fun Hs2 H2 s m => m.sqT (Same.seqT s h), fun Hs2 H2 s => rs.mono s fun b hb => absurd rfl hb⟩
theorem jok_list {G : Gc} {Hs : Hp} {p : Addr} {vs : List V} {xs : List D} (h : ∀ Hs2 H2, Same Hs Hs2 → Sm Hs2 H2 → SqL G.K H2 p vs) (rs : ∀ Hs2 H2, Same Hs Hs2 → Rps G Hs2 H2 vs xs f0) : JOk G (Itl G.K p) xs Hs := by
  refine ⟨fun Hs2 H2 s m => ⟨vs, h _ _ s m, Nat.le_of_eq (rs Hs2 H2 s).len⟩, fun Hs2 H2 i d s m e => ?_, fun Hs2 H2 i d x H' s m e y => ?_⟩
  · obtain ⟨v, hv, _⟩ := (rs Hs2 H2 s).at e
    exact ⟨vs, v, h _ _ s m, hv⟩
  · obtain ⟨rfl, k⟩ := y
    obtain ⟨v, hv, rv⟩ := (rs Hs2 H' s).at e
    have := k vs (h _ _ s m)
    rw [hv] at this; cases this
    exact ⟨Hs2, New.refl m, rv⟩
theorem jok_tup {G : Gc} {Hs : Hp} {p : Addr} {vs : List V} {xs : List D} (h : ∀ Hs2 H2, Same Hs Hs2 → Sm Hs2 H2 → SqT G.K H2 p vs) (rs : ∀ Hs2 H2, Same Hs Hs2 → Rps G Hs2 H2 vs xs f0) : JOk G (Itt G.K p) xs Hs := by
  refine ⟨fun Hs2 H2 s m => ⟨vs, h _ _ s m, Nat.le_of_eq (rs Hs2 H2 s).len⟩, fun Hs2 H2 i d s m e => ?_, fun Hs2 H2 i d x H' s m e y => ?_⟩
  · obtain ⟨v, hv, _⟩ := (rs Hs2 H2 s).at e
    exact ⟨vs, v, h _ _ s m, hv⟩
  · obtain ⟨rfl, k⟩ := y
    obtain ⟨v, hv, rv⟩ := (rs Hs2 H' s).at e
    have := k vs (h _ _ s m)
    rw [hv] at this; cases this
    exact ⟨Hs2, New.refl m, rv⟩
theorem jok_rng {G : Gc} {Hs : Hp} {lo : Int} {n : Nat} : JOk G (Itr lo n) (rngD lo n) Hs := by
  have el : (rngD lo n).length = n := by unfold rngD; rw [List.length_map, List.length_range]
  refine ⟨fun Hs2 H2 s m => by rw [el]; exact Nat.le_refl _, fun Hs2 H2 i d s m e => ?_, fun Hs2 H2 i d x H' s m e y => ?_⟩
  · have := (List.getElem?_eq_some_iff.mp e).1
    rw [el] at this; exact this
  · obtain ⟨rfl, rfl⟩ := y
    have hi := (List.getElem?_eq_some_iff.mp e).1
    rw [el] at hi
    have : (rngD lo n)[i]? = some (.int (lo + i)) := by
      unfold rngD
      rw [List.getElem?_map, List.getElem?_range hi]; rfl
    rw [this] at e; cases e
    exact ⟨Hs2, New.refl m, r_int _⟩
theorem jok_str {G : Gc} {Hs : Hp} {x : Str} : JOk G (Its x) (x.cps.toList.map fun c => .str ⟨#[c]⟩) Hs := by
  refine ⟨fun Hs2 H2 s m => by rw [List.length_map, Array.length_toList]; exact Nat.le_refl _, fun Hs2 H2 i d s m e => ?_, fun Hs2 H2 i d v H' s m e y => ?_⟩
  · have := (List.getElem?_eq_some_iff.mp e).1
    rw [List.length_map, Array.length_toList] at this; exact this
  · obtain ⟨rfl, c, hc, rfl⟩ := y
    rw [List.getElem?_map, Array.getElem?_toList, hc] at e
    cases e
    exact ⟨Hs2, New.refl m, r_str _⟩
theorem enumD_get : ∀ {xs : List D} {n i : Nat}, (enumD n xs)[i]? = (xs[i]?).map fun x => D.nd .tup false [.int (n + i : Nat), x]
  | [], n, i => by simp [enumD]
  | x :: xs, n, 0 => by simp [enumD]
  | x :: xs, n, i + 1 => by
    unfold enumD
    rw [List.getElem?_cons_succ, List.getElem?_cons_succ, enumD_get (xs := xs) (n := n + 1)]
    have : n + 1 + i = n + (i + 1) := by omega
    rw [this]
theorem enumD_len : ∀ {xs : List D} {n : Nat}, (enumD n xs).length = xs.length
  | [], _ => rfl
  | x :: xs, n => by unfold enumD; rw [List.length_cons, List.length_cons, enumD_len]
theorem jok_enum {G : Gc} {Hs : Hp} {p : Addr} {vs : List V} {xs : List D} (h : ∀ Hs2 H2, Same Hs Hs2 → Sm Hs2 H2 → SqL G.K H2 p vs) (rs : ∀ Hs2 H2, Same Hs Hs2 → Rps G Hs2 H2 vs xs f0) : JOk G (Ite G.K p) (enumD 0 xs) Hs := by
  refine ⟨fun Hs2 H2 s m => ⟨vs, h _ _ s m, by rw [enumD_len]; exact Nat.le_of_eq (rs Hs2 H2 s).len⟩, fun Hs2 H2 i d s m e => ?_, fun Hs2 H2 i d x H' s m e y => ?_⟩
  · rw [enumD_get] at e
    obtain ⟨x, hx, _⟩ := Option.map_eq_some_iff.mp e
    obtain ⟨v, hv, _⟩ := (rs Hs2 H2 s).at hx
    exact ⟨vs, v, h _ _ s m, hv⟩
  · rw [enumD_get] at e
    obtain ⟨z, hz, rfl⟩ := Option.map_eq_some_iff.mp e
    obtain ⟨T, w, rfl, nT, rfl, k⟩ := y
    obtain ⟨v, hv, rv⟩ := (rs Hs2 H2 s).at hz
    have := k vs (h _ _ s m)
    rw [hv] at this; cases this
    refine ⟨_, New.mkS m nT, newTup m nT ?_⟩
    rw [Nat.zero_add]
    exact .cons (r_int _) (.cons rv (.nil (f := f0) fun _ => rfl) fun _ => rfl) fun _ => rfl

theorem bi_E (hk : X.K = C.K) (ha : BE X C W a Fa) : BI X C W tg a (iE Fa) :=
  (PI.or (PI.or (pi_list ha) (pi_tup ha)) (pi_str ha)).imp fun σ H R ⟨e, Hs, fe, P, ok, q⟩ => by
    have qz := EndI.bind q
    -- what a gives tells which walk it is
    have cases3 : (∃ d e1, Fa e = .ok d e1 ∧ ∃ x, frz d = .str x) ∨ (∃ d e1, Fa e = .ok d e1 ∧ ∃ xs, (frz d).seq = some (false, xs)) ∨ ∀ d e1, Fa e = .ok d e1 → (∀ x, frz d ≠ .str x) ∧ ∀ xs, (frz d).seq ≠ some (false, xs) := by
      cases h : Fa e with
      | bad => exact .inr (.inr fun d e1 z => by cases z)
      | exc x e1 => exact .inr (.inr fun d e1 z => by cases z)
      | ok d e1 =>
        by_cases h1 : ∃ x, frz d = .str x
        · exact .inl ⟨d, e1, rfl, h1⟩
        · by_cases h2 : ∃ xs, (frz d).seq = some (false, xs)
          · exact .inr (.inl ⟨d, e1, rfl, h2⟩)
          · refine .inr (.inr fun d' e1' z => ?_)
            cases z
            exact ⟨fun x z => h1 ⟨x, z⟩, fun xs z => h2 ⟨xs, z⟩⟩
    rcases cases3 with ⟨d0, e0, h0, x0, hx0⟩ | ⟨d0, e0, h0, xs0, hx0⟩ | hno
    · refine .inr (firstE ok qz fun d e1 v Hs1 H1 fe1 fv1 a1 ok1 r1 ⟨hd, q1⟩ => ?_)
      rw [h0] at hd; cases hd
      obtain ⟨Hs3, a3, ok3, r3, _⟩ := (ok1.fps (fun _ => rfl) (fx' := fun b => fv1 b + f0 b) fun _ => rfl).freeze r1
      have q3 := q1.shift (a1.trans a3)
      rw [hx0] at q3 r3
      unfold itsD at q3
      dsimp only at q3
      by_cases hl : x0.cps.size ≤ lim
      · rw [if_pos hl] at q3
        exact ⟨x0, r3.toS, q3 _ Hs3 H1 fe1 (Aft.refl _ _ _) ok3 jok_str⟩
      · rw [if_neg hl] at q3; exact q3.elim
    · refine .inl (.inr (firstE ok qz fun d e1 v Hs1 H1 fe1 fv1 a1 ok1 r1 ⟨hd, q1⟩ => ?_))
      rw [h0] at hd; cases hd
      obtain ⟨Hs3, a3, ok3, r3, _⟩ := (ok1.fps (fun _ => rfl) (fx' := fun b => fv1 b + f0 b) fun _ => rfl).freeze r1
      have q3 := q1.shift (a1.trans a3)
      obtain ⟨p, vs, rfl, _, hT, rs⟩ := rp_seqS r3 hx0
      have hi : itsD (frz d0) = some xs0 := by
        unfold itsD
        split
        · rename_i x hx; rw [hx] at hx0; cases hx0
        · rw [hx0]; rfl
      rw [hi] at q3
      obtain ⟨j1, j2⟩ := jok_seqT (hT rfl) rs
      refine ⟨p, rfl, ⟨vs, by rw [hk]; exact j1 _ _ (Same.refl _) ok3.sm⟩, q3 _ Hs3 H1 fe1 (Aft.refl _ _ _) ok3 ?_⟩
      rw [hk]
      exact jok_tup (G := C.toGc) j1 j2
    · refine .inl (.inl (firstE ok qz fun d e1 v Hs1 H1 fe1 fv1 a1 ok1 r1 ⟨hd, q1⟩ => ?_))
      obtain ⟨n1, n2⟩ := hno d e1 hd
      obtain ⟨Hs3, a3, ok3, r3, _⟩ := (ok1.fps (fun _ => rfl) (fx' := fun b => fv1 b + f0 b) fun _ => rfl).freeze r1
      have q3 := q1.shift (a1.trans a3)
      have hi : itsD (frz d) = ((frz d).seq).map (·.2) := by
        unfold itsD
        split
        · rename_i x hx; exact absurd hx (n1 x)
        · rfl
      rw [hi] at q3
      cases hs : (frz d).seq with
      | none => rw [hs] at q3; exact q3.elim
      | some bx =>
        obtain ⟨b, xs⟩ := bx
        cases b with
        | false => exact absurd hs (n2 xs)
        | true =>
          rw [hs] at q3
          obtain ⟨p, vs, rfl, hL, _, rs⟩ := rp_seqS r3 hs
          obtain ⟨j1, j2⟩ := jok_seqL (hL rfl) rs
          refine ⟨p, rfl, ⟨vs, by rw [hk]; exact j1 _ _ (Same.refl _) ok3.sm⟩, q3 _ Hs3 H1 fe1 (Aft.refl _ _ _) ok3 ?_⟩
          rw [hk]
          exact jok_list (G := C.toGc) j1 j2
theorem Rps.int1 {G : Gc} {Hs H : Hp} {vs : List V} {i : Int} {f : Fp} (r : Rps G Hs H vs [.int i] f) : vs = [.int i] := by
  cases r with | cons r rs _ => cases rs with | nil _ => rw [r.toI]
theorem Rps.int2 {G : Gc} {Hs H : Hp} {vs : List V} {i j : Int} {f : Fp} (r : Rps G Hs H vs [.int i, .int j] f) : vs = [.int i, .int j] := by
  cases r with | cons r rs _ => rw [r.toI, rs.int1]
theorem bi_rng1 {p ppos : Pos} (hg : Gl X "range") (hm : X.mg "range" = none) (ha : BA X C W [a] As) (h1 : starEach [a] X.env = [(false, eval a X.env)]) : BI X C W tg (.Call (.Name "range" p) [a] [] ppos) (iRng1 As) :=
  (pi_range1 hg hm ha h1).imp fun σ H R ⟨e, Hs, fe, P, ok, q⟩ => by
    refine firstA ok (EndI.bind q) fun as e1 vs Hs1 H1 fe1 fv1 a1 ok1 r1 ⟨_, q1⟩ => ?_
    cases h : (dvs as).bind rngA1 with
    | none => rw [h] at q1; exact q1.elim
    | some z =>
      rw [h] at q1
      obtain ⟨ds, h1, h2⟩ := Option.bind_eq_some_iff.mp h
      unfold rngA1 at h2
      split at h2
      · rename_i j
        split at h2
        · rename_i hb
          cases h2
          have rv := (r1.vals h1).int1
          exact ⟨j, rv, by omega, by omega, q1 _ Hs1 H1 fe1 a1 (ok1.less fun _ => Nat.zero_le _) jok_rng⟩
        · cases h2
      · cases h2
theorem bi_rng2 {p ppos : Pos} (hg : Gl X "range") (hm : X.mg "range" = none) (ha : BA X C W [a, b] As) (h1 : starEach [a, b] X.env = [(false, eval a X.env), (false, eval b X.env)]) (h2 : starEach [b] X.env = [(false, eval b X.env)]) : BI X C W tg (.Call (.Name "range" p) [a, b] [] ppos) (iRng2 As) :=
  (pi_range2 hg hm ha h1 h2).imp fun σ H R ⟨e, Hs, fe, P, ok, q⟩ => by
    refine firstA ok (EndI.bind q) fun as e1 vs Hs1 H1 fe1 fv1 a1 ok1 r1 ⟨_, q1⟩ => ?_
    cases h : (dvs as).bind rngA2 with
    | none => rw [h] at q1; exact q1.elim
    | some z =>
      rw [h] at q1
      obtain ⟨ds, h1, h2⟩ := Option.bind_eq_some_iff.mp h
      unfold rngA2 at h2
      split at h2
      · rename_i i j
        split at h2
        · rename_i hb
          cases h2
          have rv := (r1.vals h1).int2
          exact ⟨i, j, rv, ⟨by omega, by omega, by omega, by omega⟩, q1 _ Hs1 H1 fe1 a1 (ok1.less fun _ => Nat.zero_le _) jok_rng⟩
        · cases h2
      · cases h2
theorem bi_enum {p ppos tpos : Pos} {elts : List Expr} {kk : Nat} (hk : X.K = C.K) (hg : Gl X "enumerate") (hm : X.mg "enumerate" = none) (ha : BA X C W [a] As) (h1 : starEach [a] X.env = [(false, eval a X.env)]) :
    BI X C W (.Tuple elts kk tpos) (.Call (.Name "enumerate" p) [a] [] ppos) (iEnu As) :=
  (pi_enum hg hm ha h1).imp fun σ H R ⟨e, Hs, fe, P, ok, q⟩ => by
    refine firstA ok (EndI.bind q) fun as e1 vs Hs1 H1 fe1 fv1 a1 ok1 r1 ⟨_, q1⟩ => ?_
    cases h : ((dvs as).bind fun ds => match frzs ds with
      | [d] => (match d.seq with
        | some (true, xs) => some (enumD 0 xs)
        | _ => none)
      | _ => none) with
    | none => rw [h] at q1; exact q1.elim
    | some z =>
      rw [h] at q1
      obtain ⟨ds, h1, h2⟩ := Option.bind_eq_some_iff.mp h
      obtain ⟨Hs3, a3, ok3, r3⟩ := ok1.freezes (r1.vals h1)
      have q3 := q1.shift (a1.trans a3)
      split at h2
      · rename_i d hd
        split at h2
        · rename_i xs hs
          cases h2
          rw [hd] at r3
          obtain ⟨v, rfl, rv⟩ := r3.one
          obtain ⟨p, ws, rfl, hL, _, rs⟩ := rp_seqS rv hs
          obtain ⟨j1, j2⟩ := jok_seqL (hL rfl) rs
          refine ⟨p, ws, rfl, by rw [hk]; exact j1 _ _ (Same.refl _) ok3.sm, q3 _ Hs3 H1 fe1 (Aft.refl _ _ _) ok3 ?_⟩
          rw [hk]
          exact jok_enum (G := C.toGc) j1 j2
        · cases h2
      · cases h2

theorem EndS.bindI {r : Rs (List D)} {k : List D → En → So} {Hs H : Hp} {P : Addr → Prop} {N : Ends} {σ : L2.St} {R : It → Hp → Prop} (h : EndS C W (r.toS k) Hs H P N)
    (hR : ∀ J xs e' Hs' H' fe', Aft Hs H Hs' H' P → Ok C Hs' H' σ e' fe' f0 P → JOk C.toGc J xs Hs' → EndS C W (k xs e') Hs' H' P N → R J H') : EndI C W r Hs H P σ R := by
  cases r with
  | bad => exact h
  | ok xs e' => exact fun J Hs' H' fe' a ok j => hR J xs e' Hs' H' fe' a ok j (h.shift a)
  | exc x e' => exact fun dd H2s H2 fe' b ok ex => h dd σ H2s H2 fe' b ok ex
/-- an item comes: the state behind it -/
theorem Ok.yld {J : It} {xs : List D} {Hs1 Hs H H' : Hp} {σ : L2.St} {e : En} {fe : Fp} {P : Addr → Prop} {i : Nat} {d : D} {x : V} (ok : Ok C Hs H σ e fe f0 P) (j : JOk C.toGc J xs Hs1) (s : Same Hs1 Hs) (hd : xs[i]? = some d) (y : J.yld i H x H') :
    ∃ Hs', Aft Hs H Hs' H' P ∧ Ok C Hs' H' σ e fe f0 P ∧ Rp C.toGc Hs' H' x d f0 := by
  obtain ⟨Hs3, n, r⟩ := j.yld Hs H i d x H' s ok.sm hd y
  exact ⟨Hs3, n.aft ok, (ok.new n fun _ h => absurd rfl h).fps (fun _ => rfl) fun _ => rfl, r⟩
theorem bs_for {body : List Stmt} {It : FI} {ts : List Nat} {g : FG} (hp : PassesOwn (model X.prog X.w) X.A X.env X.xe) (hc : X.calm = true) (hi : BI X C W tg a It) (hg : BG X C tg ts g) (hb : BSs X C W body S) (hf : ∀ x, foldedSetIterable a X.env x = pure x) :
    BS X C W (.For tg a body [] pos) (fFor It g S) :=
  (ps_for hp hc hi hg hb hf).imp fun N σ H ⟨e, Hs, fe, P, ok, q⟩ => by
    refine ⟨e, Hs, fe, P, ok, EndS.bindI q fun J xs e1 Hs1 H1 fe1 a1 ok1 j q1 => ?_⟩
    refine ⟨fun i m σ' H' => i + m = xs.length ∧ ∃ e' Hs' fe', Aft Hs1 H1 Hs' H' P ∧ Ok C Hs' H' σ' e' fe' f0 P ∧ EndS C W (forL g S (xs.drop i) e') Hs' H' P N, ⟨xs.length, by omega, e1, Hs1, fe1, Aft.refl _ _ _, ok1, q1⟩, ?_⟩
    rintro i m σ' H' ⟨hm, e', Hs', fe', a2, ok2, q2⟩
    by_cases hlt : i < xs.length
    · obtain ⟨d, hd⟩ : ∃ d, xs[i]? = some d := ⟨_, List.getElem?_eq_getElem hlt⟩
      have ed : xs.drop i = d :: xs.drop (i + 1) := by
        rw [List.drop_eq_getElem_cons hlt]
        rw [List.getElem?_eq_getElem hlt] at hd
        rw [Option.some.inj hd]
      rw [ed] at q2
      unfold forL at q2
      refine .inr ⟨j.go Hs' H' i d a2.sh ok2.sm hd, fun σ'' H'' => i + 1 + (m - 1) = xs.length ∧ ∃ e' Hs' fe', Aft Hs1 H1 Hs' H'' P ∧ Ok C Hs' H'' σ'' e' fe' f0 P ∧ EndS C W (forL g S (xs.drop (i + 1)) e') Hs' H'' P N, fun σ'' H'' h => ⟨m - 1, by omega, h⟩, fun x H'' y => ?_⟩
      obtain ⟨Hs3, a3, ok3, r3⟩ := ok2.yld j a2.sh hd y
      have q3 := q2.shift a3
      cases hgx : g d e' with
      | none => rw [hgx] at q3; exact q3.elim
      | some e4 =>
        rw [hgx] at q3
        dsimp only at q3
        refine ⟨e', Hs3, fe', f0, P, d, e4, ok3, r3, hgx, fun σ5 Hs5 H5 fe5 _ a5 ok5 => ⟨e4, Hs5, fe5, P, ok5, ?_⟩⟩
        have q5 := q3.shift a5
        have a6 : Aft Hs1 H1 Hs5 H5 P := (a2.trans a3).trans a5
        generalize S e4 = r at q5 ⊢
        cases r with
        | bad => exact q5
        | nx e6 => exact fun σ7 Hs7 H7 fe7 a7 ok7 => ⟨by omega, e6, Hs7, fe7, a6.trans a7, ok7, q5.shift a7⟩
        | ct e6 => exact fun σ7 Hs7 H7 fe7 a7 ok7 => ⟨by omega, e6, Hs7, fe7, a6.trans a7, ok7, q5.shift a7⟩
        | bk e6 => exact q5
        | rt d6 e6 => exact q5
        | exc x6 e6 => exact q5
    · have ei : i = xs.length := by omega
      subst ei
      rw [List.drop_length] at q2
      exact .inl ⟨j.stop Hs' H' a2.sh ok2.sm, q2 σ' Hs' H' fe' (Aft.refl _ _ _) ok2⟩
theorem bs_while {body : List Stmt} (hp : PassesOwn (model X.prog X.w) X.A X.env X.xe) (hc : BT X C W c Ta) (hb : BSs X C W body S) : BS X C W (.While c body [] pos) (fWh Ta S) :=
  (ps_while hp hc hb).imp fun N σ H ⟨e, Hs, fe, P, ok, q⟩ => by
    unfold fWh at q
    by_cases hex : ∃ n, whN Ta S n e ≠ .bad
    · rw [dif_pos hex] at q
      generalize hex.choose = n at q
      refine ⟨fun m σ' H' => ∃ e' Hs' fe', Aft Hs H Hs' H' P ∧ Ok C Hs' H' σ' e' fe' f0 P ∧ EndS C W (whN Ta S m e') Hs' H' P N, ⟨n, e, Hs, fe, Aft.refl _ _ _, ok, q⟩, ?_⟩
      rintro m σ' H' ⟨e', Hs', fe', a2, ok2, q2⟩
      cases m with
      | zero => exact q2.elim
      | succ m =>
        unfold whN at q2
        refine firstT ok2 (q2.bind σ') fun k e3 Hs3 H3 fe3 a3 ok3 q3 => ?_
        have q4 := q3.shift a3
        have a6 := a2.trans a3
        cases k with
        | false => exact iteF (q4 σ' Hs3 H3 fe3 (Aft.refl _ _ _) ok3)
        | true =>
          rw [if_pos rfl] at q4
          refine iteT ⟨fun σ'' H'' => ∃ e' Hs' fe', Aft Hs H Hs' H'' P ∧ Ok C Hs' H'' σ'' e' fe' f0 P ∧ EndS C W (whN Ta S m e') Hs' H'' P N, fun σ'' H'' h => ⟨m, Nat.lt_succ_self _, h⟩, e3, Hs3, fe3, P, ok3, ?_⟩
          generalize S e3 = r at q4 ⊢
          cases r with
          | bad => exact q4
          | nx e6 => exact fun σ7 Hs7 H7 fe7 a7 ok7 => ⟨e6, Hs7, fe7, a6.trans a7, ok7, q4.shift a7⟩
          | ct e6 => exact fun σ7 Hs7 H7 fe7 a7 ok7 => ⟨e6, Hs7, fe7, a6.trans a7, ok7, q4.shift a7⟩
          | bk e6 => exact q4
          | rt d6 e6 => exact q4
          | exc x6 e6 => exact q4
    · rw [dif_neg hex] at q; exact q.elim
theorem whN_succ {c : FT} {body : FS} : ∀ {n : Nat} {e : En} {r : So}, whN c body n e = r → r ≠ .bad → whN c body (n + 1) e = r
  | 0, e, r, h, hr => absurd h.symm hr
  | n + 1, e, r, h, hr => by
    unfold whN at h ⊢
    cases hc : c e with
    | bad => rw [hc] at h; exact h
    | exc x e1 => rw [hc] at h; exact h
    | ok k e1 =>
      rw [hc] at h
      cases k with
      | false => exact h
      | true =>
        simp only [Rs.toS, if_true] at h ⊢
        cases hb : body e1 with
        | nx e2 => rw [hb] at h; exact whN_succ h hr
        | ct e2 => rw [hb] at h; exact whN_succ h hr
        | _ => rw [hb] at h; exact h
theorem whN_add {c : FT} {body : FS} {n : Nat} {e : En} {r : So} (h : whN c body n e = r) (hr : r ≠ .bad) : ∀ k, whN c body (n + k) e = r
  | 0 => h
  | k + 1 => whN_succ (whN_add h hr k) hr
/-- a while that ends -/
theorem fWh_of {c : FT} {body : FS} {n : Nat} {e : En} {r : So} (h : whN c body n e = r) (hr : r ≠ .bad) : fWh c body e = r := by
  have hex : ∃ n, whN c body n e ≠ .bad := ⟨n, by rw [h]; exact hr⟩
  unfold fWh
  rw [dif_pos hex]
  have h1 := hex.choose_spec
  generalize hex.choose = m at h1 ⊢
  have a := whN_add h hr m
  have b := whN_add (rfl : whN c body m e = _) h1 n
  rw [Nat.add_comm] at b
  rw [← b, a]
end
end Bx

set_option Elab.async false
set_option linter.all false
set_option maxRecDepth 100000
set_option maxHeartbeats 1000000
/-! List comprehensions. -/
namespace Bx
open PySem L2

theorem wipe_at {σ : L2.St} {i : Nat} : ∀ {vs : List Nat}, i ∈ vs → i < σ.length → (wipe σ vs)[i]? = some none
  | [], h, _ => by cases h
  | v :: vs, h, hl => by
    unfold wipe
    by_cases e : v = i
    · rw [e, List.getElem?_set_self (by rw [wipe_length]; exact hl)]
    · rw [List.getElem?_set_ne e]
      rcases List.mem_cons.mp h with z | z
      · exact absurd z.symm e
      · exact wipe_at z hl
theorem wipe_tch {σ σ2 : L2.St} {ts vs : List Nat} (t : Tch ts (wipe σ vs) σ2) (h : ∀ i ∈ ts, i ∈ vs) : wipe σ2 vs = wipe σ vs := by
  apply List.ext_getElem?
  intro i
  have hl : σ2.length = σ.length := t.1.trans (wipe_length σ vs)
  by_cases hi : i ∈ vs
  · by_cases hlt : i < σ.length
    · rw [wipe_at hi hlt, wipe_at hi (by omega)]
    · rw [List.getElem?_eq_none (by rw [wipe_length]; omega), List.getElem?_eq_none (by rw [wipe_length]; omega)]
  · rw [wipe_out hi]
    exact t.2 i fun z => hi (h i z)
theorem delL_len (e : En) : ∀ vs : List Nat, (delL e vs).sl.length = e.sl.length
  | [] => rfl
  | v :: vs => by unfold delL En.del; rw [List.length_set]; exact delL_len e vs
theorem delL_at {e : En} {i : Nat} : ∀ {vs : List Nat}, i ∈ vs → ∀ d, (delL e vs).sl[i]? ≠ some (some d)
  | [], h, _ => by cases h
  | v :: vs, h, d => by
    unfold delL En.del
    by_cases e' : v = i
    · subst e'
      by_cases hl : v < (delL e vs).sl.length
      · rw [List.getElem?_set_self hl]; intro z; cases z
      · rw [List.getElem?_eq_none (by rw [List.length_set]; omega)]; intro z; cases z
    · rw [List.getElem?_set_ne e']
      rcases List.mem_cons.mp h with z | z
      · exact absurd z.symm e'
      · exact delL_at z d
section
variable {G : Gc} {Hs H : Hp}
theorem Sls.any : ∀ {σ σ2 : L2.St} {E : List (Option D)} {f : Fp}, Sls G Hs H σ E f → σ2.length = σ.length → (∀ (i : Nat) (d : D), E[i]? = some (some d) → σ2[i]? = σ[i]?) → Sls G Hs H σ2 E f
  | _, [], _, _, .nil z, _, _ => .nil z
  | _, _ :: _, _, _, .nil z, h, _ => by cases h
  | _, [], _, _, .no r, h, _ => by cases h
  | _, o :: σ2, _, _, .no r, h, k => .no (Sls.any r (by simpa using h) fun i d e => by simpa using k (i + 1) d (by simpa using e))
  | _, [], _, _, .yes r rs q, h, _ => by cases h
  | _, o :: σ2, _, _, .yes (d := d) r rs q, h, k => by
    have h0 := k 0 d rfl
    simp at h0; subst h0
    exact .yes r (Sls.any rs (by simpa using h) fun i d e => by simpa using k (i + 1) d (by simpa using e)) q
end
section
variable {C : Cc} {W : WX} {Hs H : Hp} {σ : L2.St} {e : En} {fe fx : Fp} {P : Addr → Prop}
theorem Ok.delL (ok : Ok C Hs H σ e fe fx P) : ∀ vs : List Nat, ∃ fe', Ok C Hs H σ (delL e vs) fe' fx P
  | [] => ⟨fe, ok⟩
  | v :: vs => by
    obtain ⟨fe1, ok1⟩ := Ok.delL ok vs
    exact ok1.del v
/-- slots that are not looked at may hold anything -/
theorem Ok.frame {σ2 : L2.St} (ok : Ok C Hs H σ e fe fx P) (hl : σ2.length = σ.length) (h : ∀ (i : Nat) (d : D), e.sl[i]? = some (some d) → σ2[i]? = σ[i]?) (hp : ∀ p ∈ C.pins, σ2[p.1]? = σ[p.1]?) : Ok C Hs H σ2 e fe fx P :=
  ⟨ok.wf, ok.sl.any hl h, fun p hpp => (hp p hpp).trans (ok.pn p hpp), ok.ex⟩
theorem Ok.wipe {vs : List Nat} (hv : ∀ p ∈ C.pins, p.1 ∉ vs) (ok : Ok C Hs H σ (Bx.delL e vs) fe fx P) : Ok C Hs H (L2.wipe σ vs) (Bx.delL e vs) fe fx P :=
  ok.frame (wipe_length σ vs) (fun i d h => wipe_out fun z => delL_at z d h) fun p hp => wipe_out (hv p hp)
theorem Ok.unwipe {vs : List Nat} (hv : ∀ p ∈ C.pins, p.1 ∉ vs) (ok : Ok C Hs H (L2.wipe σ vs) (Bx.delL e vs) fe fx P) : Ok C Hs H σ (Bx.delL e vs) fe fx P :=
  ok.frame (wipe_length σ vs).symm (fun i d h => (wipe_out fun z => delL_at z d h).symm) fun p hp => (wipe_out (hv p hp)).symm
end

/-- nothing is raised here -/
abbrev W0 : WX := fun _ _ _ _ => False
theorem EndZ.nox {α : Type} {C : Cc} {r : Rs α} {Hs H : Hp} {P : Addr → Prop} {σ : L2.St} {Z : α → En → Prop} {W : WX} (h : EndZ C W r.nox Hs H P σ Z) : EndZ C W0 r Hs H P σ Z := by
  cases r with
  | bad => exact h
  | ok d e => exact h
  | exc x e => exact h.elim
def BTs (X : Cx) (C : Cc) (W : WX) (ifs : List Expr) (F : FT) : Prop := PTs X ifs (canT C W F)
theorem _root_.L2.PTs.imp {X : Cx} {e : List Expr} {t t' : TT} (h : PTs X e t) (i : ∀ σ H Q, t' σ H Q → t σ H Q) : PTs X e t' := ⟨fun pins s σ H Q I q => h.run pins s σ H Q I (i _ _ _ q)⟩
theorem bts_nil {X : Cx} {C : Cc} {W : WX} : BTs X C W [] tYesF := pts_nil.imp fun σ H Q ⟨e, Hs, fe, P, ok, q⟩ => q Hs H fe (Aft.refl _ _ _) ok
theorem bts_one {X : Cx} {C : Cc} {W : WX} {c : Expr} {F : FT} (h : BT X C W c F) : BTs X C W [c] F := pts_one h

/-- where a comprehension stands: acc is made so far, at D -/
structure LcSt (C : Cc) (W : WX) (vs : List Nat) (g : FG) (tt : FT) (el : FE) (xs : List D) (σ : L2.St) (Hs1 H1 : Hp) (P : Addr → Prop) (Dd : Addr) (Z : List D → En → Prop) (i : Nat) (H : Hp) : Prop where
  ex : ∃ (acc : List D) (e : En) (Hs : Hp) (fe fa : Fp) (va : List V), Aft Hs1 H1 Hs H P ∧ Ok C Hs H (wipe σ vs) (delL e vs) fe (fun b => fa b + if b = Dd then 1 else 0) P ∧ H Dd = some (.lst va) ∧ Rps C.toGc Hs H va acc fa ∧
    EndZ C W (lcL vs g tt el (xs.drop i) acc (delL e vs)) Hs H P σ Z

theorem lc_main {C : Cc} {W : WX} {vs : List Nat} {ts : List Nat} {g : FG} {tt : FT} {el : FE} {xs : List D} {σ : L2.St} {Hs1 H1 : Hp} {P : Addr → Prop} {Dd : Addr} {Z : List D → En → Prop} {J : It} {QD : Hp → Prop}
    (hts : ∀ i ∈ ts, i ∈ vs) (hv : ∀ p ∈ C.pins, p.1 ∉ vs) (j : JOk C.toGc J xs Hs1) (st : LcSt C W vs g tt el xs σ Hs1 H1 P Dd Z 0 H1)
    (fin : ∀ acc e Hs H fe fa va, Aft Hs1 H1 Hs H P → Ok C Hs H (wipe σ vs) (delL e vs) fe (fun b => fa b + if b = Dd then 1 else 0) P → H Dd = some (.lst va) → Rps C.toGc Hs H va acc fa → Z acc (delL e vs) → QD H) :
    ∃ Wn : Nat → Nat → Hp → Prop, (∃ m, Wn 0 m H1) ∧ ∀ i m H, Wn i m H →
      (J.stop i H ∧ QD H) ∨ (J.go i H ∧ ∃ Nx : Hp → Prop, (∀ H', Nx H' → ∃ m', m' < m ∧ Wn (i + 1) m' H') ∧ ∀ x H', J.yld i H x H' → canG C ts g x (wipe σ vs) H' fun σ2 H2 => wipe σ2 vs = wipe σ vs ∧ canT C W0 tt σ2 H2 fun b H3 =>
        if b = true then canE C W0 el σ2 H3 fun y H4 => ∃ acc, H4 Dd = some (.lst acc) ∧ acc.length < sizeLine ∧ Nx (upd H4 Dd (.lst (acc ++ [y]))) else Nx H3) := by
  refine ⟨fun i m H => i + m = xs.length ∧ LcSt C W vs g tt el xs σ Hs1 H1 P Dd Z i H, ⟨xs.length, by omega, st⟩, ?_⟩
  rintro i m H ⟨hm, ⟨acc, e, Hs, fe, fa, va, a2, ok2, hD, ra, q2⟩⟩
  by_cases hlt : i < xs.length
  · obtain ⟨d, hd⟩ : ∃ d, xs[i]? = some d := ⟨_, List.getElem?_eq_getElem hlt⟩
    have ed : xs.drop i = d :: xs.drop (i + 1) := by
      rw [List.drop_eq_getElem_cons hlt]
      rw [List.getElem?_eq_getElem hlt] at hd
      rw [Option.some.inj hd]
    rw [ed] at q2
    unfold lcL at q2
    refine .inr ⟨j.go Hs H i d a2.sh ok2.sm hd, fun H' => i + 1 + (m - 1) = xs.length ∧ LcSt C W vs g tt el xs σ Hs1 H1 P Dd Z (i + 1) H', fun H' h => ⟨m - 1, by omega, h⟩, fun x H' y => ?_⟩
    -- the list made so far is held
    have hR : Held (fun Hs' H' => H' Dd = some (.lst va) ∧ Rps C.toGc Hs' H' va acc fa) (fun b => fa b + if b = Dd then 1 else 0) Hs H :=
      ⟨⟨hD, ra⟩, fun Hs' H' s k => ⟨(k Dd (by rw [if_pos rfl]; omega)).1.trans hD, ra.mono s fun b hb => k b (by omega)⟩, fun b hb => by
        by_cases z : b = Dd
        · rw [z, hD]; intro z; cases z
        · rw [if_neg z] at hb; exact (ra.live b (by omega)).1⟩
    obtain ⟨Hs3, n3, r3⟩ := j.yld Hs H i d x H' a2.sh ok2.sm hd y
    have af3 : Aft Hs H Hs3 H' (fun b => P b ∨ fa b + (if b = Dd then 1 else 0) ≠ 0) := n3.aft (ok2.holdR hR)
    have okH := ok2.holdR hR
    have okH3 : Ok C Hs3 H' (wipe σ vs) (delL e vs) fe f0 (fun b => P b ∨ fa b + (if b = Dd then 1 else 0) ≠ 0) := (okH.new n3 fun _ h => absurd rfl h).fps (fun _ => rfl) fun _ => rfl
    have hold3 := hR.on ok2 af3
    cases hgx : g d (delL e vs) with
    | none => rw [hgx] at q2; exact q2.elim
    | some e4 =>
      rw [hgx] at q2
      dsimp only at q2
      refine ⟨delL e vs, Hs3, fe, f0, _, d, e4, okH3, r3, hgx, fun σ5 Hs5 H5 fe5 t5 a5 ok5 => ⟨wipe_tch t5 hts, ?_⟩⟩
      have af5 := af3.trans a5
      have hold5 := hR.on ok2 af5
      -- the test
      have q5 : EndZ C W0 (tt e4) Hs5 H5 (fun b => P b ∨ fa b + (if b = Dd then 1 else 0) ≠ 0) σ5 fun k e2 => EndZ C W (if k then (el e2).nox.bind fun y e3 => (if acc.length < lim then lcL vs g tt el (xs.drop (i + 1)) (acc ++ [y]) (delL e3 vs) else .bad) else lcL vs g tt el (xs.drop (i + 1)) acc (delL e2 vs)) Hs H P σ Z := by
        cases h : tt e4 with
        | bad => rw [h] at q2; exact q2.elim
        | exc x e => rw [h] at q2; exact q2.elim
        | ok k e2 => rw [h] at q2; exact q2
      refine firstT ok5 q5 fun k e6 Hs6 H6 fe6 a6 ok6 q6 => ?_
      have af6 := af5.trans a6
      have hold6 := hR.on ok2 af6
      -- the turn's end
      have turn : ∀ (acc' : List D) (e' : En) (Hs' H'' : Hp) (fe' fa' : Fp) (va' : List V) (σ' : L2.St), σ'.length = (wipe σ vs).length → (∀ i, i ∉ vs → σ'[i]? = (wipe σ vs)[i]?) → Aft Hs H Hs' H'' P → Ok C Hs' H'' σ' e' fe' (fun b => fa' b + if b = Dd then 1 else 0) P → H'' Dd = some (.lst va') → Rps C.toGc Hs' H'' va' acc' fa' →
          EndZ C W (lcL vs g tt el (xs.drop (i + 1)) acc' (delL e' vs)) Hs H P σ Z → i + 1 + (m - 1) = xs.length ∧ LcSt C W vs g tt el xs σ Hs1 H1 P Dd Z (i + 1) H'' := by
        intro acc' e' Hs' H'' fe' fa' va' σ' hl' ho' af' ok' hD' ra' q'
        obtain ⟨fe2, ok2'⟩ := ok'.delL vs
        refine ⟨by omega, ⟨acc', e', Hs', fe2, fa', va', a2.trans af', ?_, hD', ra', ?_⟩⟩
        · exact ok2'.frame hl'.symm (fun i d h => (ho' i fun z => delL_at z d h).symm) fun p hp => (ho' p.1 (hv p hp)).symm
        · cases hr : lcL vs g tt el (xs.drop (i + 1)) acc' (delL e' vs) with
          | bad => rw [hr] at q'; exact q'
          | ok a b => rw [hr] at q'; exact q'
          | exc x b => rw [hr] at q'; exact XcK.shift q' af'
      have t5' : σ5.length = (wipe σ vs).length ∧ ∀ i, i ∉ vs → σ5[i]? = (wipe σ vs)[i]? := ⟨t5.1, fun i hi => t5.2 i fun z => hi (hts i z)⟩
      cases k with
      | false =>
        refine iteF ?_
        have okb : Ok C Hs6 H6 σ5 e6 fe6 (fun b => (fa b + if b = Dd then 1 else 0) + f0 b) P := ok6.back (fun b => by have := ok2.wf.one b; omega) (fun b hb => by have := ok2.wf.apart b hb; omega) (fun b hb => ok2.wf.own b (by omega)) af6
        exact turn acc e6 Hs6 H6 fe6 fa va σ5 t5'.1 t5'.2 (af6.weak fun b hb => .inl hb) (okb.fps (fun _ => rfl) fun _ => rfl) hold6.1 hold6.2 q6
      | true =>
        refine iteT ?_
        have q7 : EndZ C W0 (el e6) Hs6 H6 (fun b => P b ∨ fa b + (if b = Dd then 1 else 0) ≠ 0) σ5 fun y e3 => EndZ C W (if acc.length < lim then lcL vs g tt el (xs.drop (i + 1)) (acc ++ [y]) (delL e3 vs) else .bad) Hs H P σ Z := by
          cases h : el e6 with
          | bad => simp only [if_true] at q6; rw [h] at q6; exact q6.elim
          | exc x e => simp only [if_true] at q6; rw [h] at q6; exact q6.elim
          | ok k e2 => simp only [if_true] at q6; rw [h] at q6; exact q6
        refine firstE ok6 q7 fun y e8 v8 Hs8 H8 fe8 fv8 a8 ok8 r8 q8 => ?_
        have af8 := af6.trans a8
        have hold8 := hR.on ok2 af8
        by_cases hl : acc.length < lim
        · rw [if_pos hl] at q8
          refine ⟨va, hold8.1, by rw [ra.len]; exact lim_lt (Nat.le_of_lt hl), ?_⟩
          have okb : Ok C Hs8 H8 σ5 e8 fe8 (fun b => (fa b + if b = Dd then 1 else 0) + fv8 b) P := ok8.back (fun b => by have := ok2.wf.one b; omega) (fun b hb => by have := ok2.wf.apart b hb; omega) (fun b hb => ok2.wf.own b (by omega)) af8
          have nD : Hs8 Dd = none := okb.wf.own Dd (by rw [if_pos rfl]; omega)
          have onD := okb.wf.one Dd
          rw [if_pos rfl] at onD
          have ne : ∀ b, (fe8 b ≠ 0 ∨ fa b ≠ 0 ∨ fv8 b ≠ 0) → b ≠ Dd := fun b hb z => by subst z; omega
          have up : ∀ b, b ≠ Dd → (upd H8 Dd (.lst (va ++ [v8]))) b = H8 b := fun b hb => upd_ne hb
          have afU : Aft Hs8 H8 Hs8 (upd H8 Dd (.lst (va ++ [v8]))) P := ⟨Same.refl _, fun b hb => ⟨up b fun z => by have := okb.wf.apart b hb; rw [if_pos z] at this; omega, rfl⟩, fun b hb => by
            by_cases z : b = Dd
            · rw [z, upd_same] at hb; cases hb
            · rw [up b z] at hb; exact hb⟩
          have smU : Sm Hs8 (upd H8 Dd (.lst (va ++ [v8]))) := fun a u ha => by
            rw [up a fun z => by rw [z, nD] at ha; cases ha]; exact okb.wf.sm a u ha
          have keep : ∀ {f : Fp}, (∀ b, f b ≠ 0 → b ≠ Dd) → (∀ b, f b ≠ 0 → Hs8 b = none) → ∀ b, f b ≠ 0 → (upd H8 Dd (.lst (va ++ [v8]))) b = H8 b ∧ Hs8 b = none := fun h1 h2 b hb => ⟨up b (h1 b hb), h2 b hb⟩
          refine turn (acc ++ [y]) e8 Hs8 _ fe8 (fun b => fa b + fv8 b) (va ++ [v8]) σ5 t5'.1 t5'.2 ((af8.weak fun b hb => .inl hb).trans afU) ⟨⟨smU, fun b => by have := okb.wf.one b; omega, fun b hb => okb.wf.own b (by omega), fun b hb => by have := okb.wf.apart b hb; omega, fun b hb z => okb.wf.live b hb (afU.mono b z)⟩,
            okb.sl.mono (Same.refl _) (keep (fun b hb => ne b (.inl hb)) fun b hb => okb.wf.own b (by omega)), okb.pn, okb.ex.mono (Same.refl _)⟩ upd_same ?_ q8
          refine Rps.app (hold8.2.mono (Same.refl _) (keep (fun b hb => ne b (.inr (.inl hb))) fun b hb => okb.wf.own b (by omega))) (.cons (r8.mono (Same.refl _) (keep (fun b hb => ne b (.inr (.inr hb))) fun b hb => okb.wf.own b (by omega))) (.nil (f := f0) fun _ => rfl) (h := fv8) fun b => rfl) fun b => rfl
        · rw [if_neg hl] at q8; exact q8.elim
  · have ei : i = xs.length := by omega
    subst ei
    rw [List.drop_length] at q2
    exact .inl ⟨j.stop Hs H a2.sh ok2.sm, fin acc e Hs H fe fa va a2 ok2 hD ra q2⟩

section
variable {X : Cx} {C : Cc} {W : WX} {pos : Pos} {a tg elt : Expr} {ifs : List Expr} {Fi : FI} {ts : List Nat} {g : FG} {tt : FT} {el : FE}
theorem EndE.bindI {r : Rs (List D)} {k : List D → En → Rs D} {Hs H : Hp} {P : Addr → Prop} {σ : L2.St} {R : It → Hp → Prop} {Q : VK} (h : EndE C W (r.bind k) Hs H P σ Q)
    (hR : ∀ J xs e' Hs' H' fe', Aft Hs H Hs' H' P → Ok C Hs' H' σ e' fe' f0 P → JOk C.toGc J xs Hs' → EndE C W (k xs e') Hs' H' P σ Q → R J H') : EndI C W r Hs H P σ R := by
  cases r with
  | bad => exact h
  | ok xs e' => exact fun J Hs' H' fe' a ok j => hR J xs e' Hs' H' fe' a ok j (h.shift a)
  | exc x e' => exact h
/-- the reading of a comprehension -/
theorem lc_read {wi : TI} {own : List (Str × Nat)} (hts : ∀ i ∈ ts, i ∈ own.map (·.2)) (hv : ∀ p ∈ C.pins, p.1 ∉ own.map (·.2)) {σ : L2.St} {H : Hp} {Q : VK} (h : canE C W (eLc (own.map (·.2)) Fi g tt el) σ H Q) :
    tLc (canI C W Fi) (canG C ts g) (canT C W0 tt) (canE C W0 el) (own.map (·.2)) σ H Q := by
  generalize own.map (·.2) = vs at hts hv h ⊢
  obtain ⟨e, Hs, fe, P, ok, q⟩ := h
  refine ⟨e, Hs, fe, P, ok, EndE.bindI q fun J xs e1 Hs1 H1 fe1 a1 ok1 j q1 => ?_⟩
  intro Dd hD
  obtain ⟨fe2, ok2⟩ := ok1.delL vs
  have ok3 := ok2.wipe hv
  have n := New.obj (o := .lst []) ok3.sm hD
  have ok4 := ok3.new n fun b hb => absurd rfl hb
  have ok5 : Ok C Hs1 (upd H1 Dd (.lst [])) (wipe σ vs) (delL e1 vs) fe2 (fun b => f0 b + if b = Dd then 1 else 0) P := ok4
  have af : Aft Hs1 H1 Hs1 (upd H1 Dd (.lst [])) P := n.aft ok3
  refine lc_main (W := W) (xs := xs) (el := el) (tt := tt) (P := P) (Z := fun acc e2 => EndE C W (.ok (.nd .lst true acc) e2) Hs1 (upd H1 Dd (.lst [])) P σ Q) hts hv j ⟨[], e1, Hs1, fe2, f0, [], Aft.refl _ _ _, ok5, upd_same, .nil fun _ => rfl, ?_⟩ ?_
  · have q2 := q1.shift af
    rw [List.drop_zero]
    cases hr : lcL vs g tt el xs [] (delL e1 vs) with
    | bad => rw [hr] at q2; exact q2
    | ok acc e2 => rw [hr] at q2; exact q2
    | exc x e2 => rw [hr] at q2; exact fun dd H2s H2 fe' b ok ex => q2 dd H2s H2 fe' b ok ex
  · intro acc e2 Hs2 H2 fe2 fa va a2 ok2 hl ra z
    refine z (.ref Dd) Hs2 H2 fe2 (fun b => fa b + if b = Dd then 1 else 0) a2 (ok2.unwipe hv) ?_
    exact .own hl rfl (ok2.wf.own Dd (by rw [if_pos rfl]; omega)) ra fun b => rfl
theorem be_lc {scope : Scope} {own : List (Str × Nat)} (hc : X.calm = true) (hN : X.N.Nodup) (hi : BI X C W tg a Fi) (ok : BlkOk X.N X.env.scope scope own) (hts : ∀ i ∈ ts, i ∈ own.map (·.2)) (hv : ∀ p ∈ C.pins, p.1 ∉ own.map (·.2))
    (hg : ∀ (s : Shared) (H : Hp) (Ca : Addr) (cl : List (Str × Addr)) (fp : List Addr), BG (X.blk s H scope (compEnvC scope cl Ca X.env) fp) C tg ts g)
    (ht : ∀ (s : Shared) (H : Hp) (Ca : Addr) (cl : List (Str × Addr)) (fp : List Addr), BTs (X.blk s H scope (compEnvC scope cl Ca X.env) fp) C W0 ifs tt)
    (he : ∀ (s : Shared) (H : Hp) (Ca : Addr) (cl : List (Str × Addr)) (fp : List Addr), BE (X.blk s H scope (compEnvC scope cl Ca X.env) fp) C W0 elt el) (hf : ∀ x, foldedSetIterable a X.env x = pure x) :
    BE X C W (.ListComp elt [⟨tg, a, ifs, 0⟩] scope pos) (eLc (own.map (·.2)) Fi g tt el) :=
  (pe_lc hc hN hi ok hg ht he hf).imp fun σ H Q h => lc_read (wi := canI C W Fi) hts hv h
theorem bs_setLc {i : Nat} {y : Str} {py spos : Pos} {scope : Scope} {own : List (Str × Nat)} (hc : X.calm = true) (hN : X.N.Nodup) (hy : X.N[i]? = some y) (hyl : X.env.scope.names.lookup y = some .local) (hp : npin C i)
    (hsw : swapsWith (.ListComp elt [⟨tg, a, ifs, 0⟩] scope pos) (some (.Name y py)) spos.line X.env = pure true) (hi : BI X C W tg a Fi) (ok : BlkOk X.N X.env.scope scope own) (hts : ∀ i ∈ ts, i ∈ own.map (·.2)) (hv : ∀ p ∈ C.pins, p.1 ∉ own.map (·.2))
    (hg : ∀ (s : Shared) (H : Hp) (Ca : Addr) (cl : List (Str × Addr)) (fp : List Addr), BG (X.blk s H scope (compEnvC scope cl Ca X.env) fp) C tg ts g)
    (ht : ∀ (s : Shared) (H : Hp) (Ca : Addr) (cl : List (Str × Addr)) (fp : List Addr), BTs (X.blk s H scope (compEnvC scope cl Ca X.env) fp) C W0 ifs tt)
    (he : ∀ (s : Shared) (H : Hp) (Ca : Addr) (cl : List (Str × Addr)) (fp : List Addr), BE (X.blk s H scope (compEnvC scope cl Ca X.env) fp) C W0 elt el) (hf : ∀ x, foldedSetIterable a X.env x = pure x) :
    BS X C W (.Assign [.Name y py] (.ListComp elt [⟨tg, a, ifs, 0⟩] scope pos) spos) (fAsg (gN i) (eLc (own.map (·.2)) Fi g tt el)) :=
  (ps_setLc hc hN hy hyl hsw hi ok hg ht he hf).imp fun N σ H ⟨e, Hs, fe, P, ok, q⟩ => by
    refine lc_read (wi := canI C W Fi) hts hv (W := W) (firstE ok (q.bind σ) fun d e1 v Hs1 H1 fe1 fv1 a1 ok1 r1 q1 => ?_)
    unfold gN at q1
    by_cases hi : i < e1.sl.length
    · rw [if_pos hi] at q1
      obtain ⟨fe', ok'⟩ := (ok1.fps (fun _ => rfl) (fx' := fun b => fv1 b + f0 b) fun _ => rfl).put r1 hi hp
      exact q1 _ Hs1 H1 fe' a1 ok'
    · rw [if_neg hi] at q1; exact q1.elim
end
end Bx

set_option Elab.async false
set_option linter.all false
set_option maxRecDepth 100000
set_option maxHeartbeats 1000000
/-! What a name holds is changed: items stored, lists grown. -/
namespace Bx
open PySem L2

section
variable {C : Cc} {Hs H : Hp} {σ : L2.St} {e : En} {fe fx : Fp} {P : Addr → Prop}
/-- an owned object is changed -/
theorem Ok.chg {a : Addr} {o : HO} (ok : Ok C Hs H σ e fe fx P) (ha : fx a ≠ 0) : Ok C Hs (upd H a o) σ e fe fx P ∧ Aft Hs H Hs (L2.upd H a o) P := by
  have up : ∀ b, b ≠ a → (L2.upd H a o) b = H b := fun b hb => upd_ne hb
  have nHs : Hs a = none := ok.wf.own a (by omega)
  have mono : ∀ b, (L2.upd H a o) b = none → H b = none := fun b hb => by
    by_cases z : b = a
    · rw [z, upd_same] at hb; cases hb
    · rw [up b z] at hb; exact hb
  have hP : ∀ b, P b → b ≠ a := fun b hb z => by have := ok.wf.apart b hb; rw [z] at this; omega
  refine ⟨⟨⟨fun b u hb => ?_, ok.wf.one, ok.wf.own, ok.wf.apart, fun b hb z => ok.wf.live b hb (mono b z)⟩, ok.sl.mono (Same.refl _) fun b hb => ⟨up b fun z => ?_, ok.wf.own b (by omega)⟩, ok.pn, ok.ex.mono (Same.refl _)⟩, ⟨Same.refl _, fun b hb => ⟨up b (hP b hb), rfl⟩, mono⟩⟩
  · rw [up b fun z => by rw [z, nHs] at hb; cases hb]; exact ok.wf.sm b u hb
  · have := ok.wf.one b; rw [z] at this hb; omega
end
section
variable {G : Gc} {Hs H : Hp}
/-- one of them is put in another's place -/
theorem rps_set : ∀ {vs : List V} {ds : List D} {f : Fp} {i : Nat} {v : V} {d : D} {g : Fp}, Rps G Hs H vs ds f → i < ds.length → Rp G Hs H v d g → ∃ (f1 f2 : Fp), (∀ b, f b = f1 b + f2 b) ∧ Rps G Hs H (vs.set i v) (ds.set i d) (fun b => g b + f2 b)
  | _, _, _, i, _, _, _, .nil _, h, _ => by simp at h
  | _, _, _, 0, _, _, _, .cons (f := f1) (g := g1) r rs e, h, r2 => ⟨f1, g1, e, .cons r2 rs fun b => rfl⟩
  | _, _, _, i + 1, _, _, g, .cons (f := f1) (g := g1) r rs e, h, r2 => by
    obtain ⟨a1, a2, h1, h2⟩ := rps_set rs (i := i) (by simpa using h) r2
    exact ⟨a1, fun b => f1 b + a2 b, fun b => by rw [e b, h1 b]; show _ = a1 b + (f1 b + a2 b); omega, .cons r h2 fun b => by show g b + (f1 b + a2 b) = f1 b + (g b + a2 b); omega⟩
end
theorem kpos_cons {κ : Type} [DecidableEq κ] {k k' : κ} {ks : List κ} : kpos (k' :: ks) k = if k' = k then some 0 else (kpos ks k).map (· + 1) := rfl
theorem any_kpos {κ : Type} [DecidableEq κ] {k : κ} : ∀ {ks : List κ} {vs : List V}, ks.length = vs.length → ((ks.zip vs).any fun kv => decide (kv.1 = k)) = (kpos ks k).isSome
  | [], [], _ => rfl
  | [], _ :: _, h => by cases h
  | _ :: _, [], h => by cases h
  | k' :: ks, v :: vs, h => by
    have ih := any_kpos (k := k) (ks := ks) (vs := vs) (by simpa using h)
    rw [List.zip_cons_cons, List.any_cons, ih, kpos_cons]
    by_cases e : k' = k
    · simp [e]
    · simp [e]
theorem kpos_mem {κ : Type} [DecidableEq κ] {k : κ} : ∀ {ks : List κ}, (kpos ks k).isSome = true ↔ k ∈ ks
  | [] => by simp [kpos]
  | k' :: ks => by
    rw [kpos_cons]
    by_cases e : k' = k
    · simp [e]
    · have ih := kpos_mem (k := k) (ks := ks)
      simp only [if_neg e, Option.isSome_map, List.mem_cons]
      constructor
      · intro h; exact .inr (ih.mp h)
      · rintro (h | h)
        · exact absurd h.symm e
        · exact ih.mpr h
theorem map_out {κ : Type} [DecidableEq κ] {k : κ} {v : V} : ∀ {ks : List κ} {vs : List V}, k ∉ ks → (ks.zip vs).map (fun kv => if kv.1 = k then (kv.1, v) else kv) = ks.zip vs
  | [], _, _ => rfl
  | _ :: _, [], _ => rfl
  | k' :: ks, w :: vs, h => by
    rw [List.zip_cons_cons, List.map_cons, map_out (fun z => h (List.mem_cons_of_mem _ z)), if_neg fun z => h (by rw [show k = k' from z.symm]; exact List.mem_cons_self)]
theorem map_set {κ : Type} [DecidableEq κ] {k : κ} {v : V} : ∀ {ks : List κ} {vs : List V} {j : Nat}, ks.Nodup → ks.length = vs.length → kpos ks k = some j → (ks.zip vs).map (fun kv => if kv.1 = k then (kv.1, v) else kv) = ks.zip (vs.set j v)
  | [], _, _, _, _, h => by cases h
  | _ :: _, [], _, _, h, _ => by cases h
  | k' :: ks, w :: vs, j, nd, hl, h => by
    unfold kpos at h
    by_cases e : k' = k
    · rw [if_pos e] at h
      cases h
      rw [List.zip_cons_cons, List.map_cons, if_pos e, List.set_cons_zero, List.zip_cons_cons]
      rw [map_out (by rw [← e]; exact (List.nodup_cons.mp nd).1)]
    · rw [if_neg e] at h
      obtain ⟨i, h1, rfl⟩ := Option.map_eq_some_iff.mp h
      rw [List.zip_cons_cons, List.map_cons, if_neg e, List.set_cons_succ, List.zip_cons_cons, map_set (List.nodup_cons.mp nd).2 (by simpa using hl) h1]
theorem putK_old {κ : Type} [DecidableEq κ] {k : κ} {v : V} {ks : List κ} {vs : List V} {j : Nat} (nd : ks.Nodup) (hl : ks.length = vs.length) (h : kpos ks k = some j) : putK (ks.zip vs) k v = ks.zip (vs.set j v) := by
  unfold putK
  rw [any_kpos hl, h]
  exact map_set nd hl h
theorem putK_fresh {κ : Type} [DecidableEq κ] {k : κ} {v : V} {ks : List κ} {vs : List V} (hl : ks.length = vs.length) (h : kpos ks k = none) : putK (ks.zip vs) k v = (ks ++ [k]).zip (vs ++ [v]) := by
  unfold putK
  rw [any_kpos hl, h]
  show (ks.zip vs) ++ [(k, v)] = _
  rw [List.zip_append hl]; rfl

/-- x[y] = d, what x holds being k, xs -/
def setD (k : Kd) (xs : List D) (y d : D) : Option D := match k with
  | .lst => (match y with
    | .int i => (ixN xs.length i).map fun j => .nd .lst true (xs.set j d)
    | _ => none)
  | .dk ks => (keyD y).bind fun key => if xs.length < lim then some (match kpos ks key with
    | some j => .nd (.dk ks) true (xs.set j d)
    | none => .nd (.dk (ks ++ [key])) true (xs ++ [d])) else none
  | .dt ks => (tkeyD y).bind fun key => if xs.length < lim then some (match kpos ks key with
    | some j => .nd (.dt ks) true (xs.set j d)
    | none => .nd (.dt (ks ++ [key])) true (xs ++ [d])) else none
  | _ => none
/-- a slot's owned node -/
def En.own (e : En) (i : Nat) : Option (Kd × List D) := match e.sl[i]? with
  | some (some (.nd k true xs)) => some (k, xs)
  | _ => none
def So.opt (o : Option En) : So := match o with
  | some e => .nx e
  | none => .bad
def fSetN (i : Nat) (b a : FE) : FS := fun e => (a e).toS fun d e1 => if (e1.own i).isSome then (b e1).toS fun y e2 => .opt ((e2.own i).bind fun (k, xs) => (setD k xs (frz y) d).map fun d' => e2.put i d') else .bad
theorem En.own_some {e : En} {i : Nat} {k : Kd} {xs : List D} (h : e.own i = some (k, xs)) : e.sl[i]? = some (some (.nd k true xs)) := by
  unfold En.own at h
  split at h
  · rename_i k' xs' h'; cases h; exact h'
  · cases h

def rSetA : TSet := fun o i v H Q => rSetL o i v H Q ∨ rSetD o i v H Q
theorem set_A {X : Cx} (hu : X.A.units + 1 < cLine) : PSet X rSetA := fun pins s σ H o i v ov iv u Q I ro ri rv h => h.elim (set_list pins s σ H o i v ov iv u Q I ro ri rv) (set_dict hu pins s σ H o i v ov iv u Q I ro ri rv)

section
variable {C : Cc} {Hs H : Hp} {σ : L2.St} {e : En} {fe fx : Fp} {P : Addr → Prop}
/-- the store itself: a value at hand goes into the slot's node -/
theorem Ok.store' {i : Nat} {k : Kd} {xs : List D} {y d d' : D} {w u v0 : V} {fy fd : Fp} (ok : Ok C Hs H σ e fe fd P) (ho : e.own i = some (k, xs)) (hv : σ[i]? = some (some v0)) (ry : Rp C.toGc Hs H w y fy) (rd : Rp C.toGc Hs H u d fd) (hs : setD k xs y d = some d') {Q : Hp → Prop}
    (q : ∀ H' fe', Aft Hs H Hs H' P → Ok C Hs H' σ (e.put i d') fe' f0 P → Q H') : (k = .lst ∧ rSetL v0 w u H Q) ∨ (k ≠ .lst ∧ rSetD v0 w u H Q) := by
  obtain ⟨v, f1, f2, e1, r1, e2, ok1, put⟩ := ok.slot (En.own_some ho)
  rw [hv] at e1; cases e1
  cases r1 with
  | @own a _ vs _ g _ at_ hw nHs rs eg =>
    have ha1 : f1 a ≠ 0 := by rw [eg a, if_pos rfl]; omega
    have hl := rs.len
    have one := ok1.wf.one
    -- the new node
    have main : ∀ (k' : Kd) (vs' : List V) (xs' : List D) (fn : Fp) (o : HO), At C.toGc (upd H a o) a k' vs' → k'.ow = true → (∀ b, fn b ≤ g b + fd b) → Rps C.toGc Hs (upd H a o) vs' xs' fn → Q (upd H a o) ∨ (∃ fe', Aft Hs H Hs (upd H a o) P ∧ Ok C Hs (upd H a o) σ (e.put i (.nd k' true xs')) fe' f0 P) := by
      intro k' vs' xs' fn o at' w' le rs'
      right
      obtain ⟨ok2, af⟩ := ok1.chg (o := o) (a := a) (by omega)
      have ok3 : Ok C Hs (upd H a o) σ { e with sl := e.sl.set i none } f2 (fun b => (fn b + if b = a then 1 else 0) + f0 b) P := ok2.less fun b => by have := le b; have := eg b; show fn b + (if b = a then 1 else 0) + 0 ≤ f1 b + fd b; omega
      exact ⟨_, af, put (e' := e) ok3 (.own at' w' nHs rs' fun b => rfl)⟩
    -- the parts stand behind the store
    have up : ∀ (o : HO) b, b ≠ a → (upd H a o) b = H b := fun o b hb => upd_ne hb
    have g_a : g a = 0 := by have := one a; have := eg a; rw [if_pos rfl] at this; omega
    have fd_a : fd a = 0 := by have := one a; have := eg a; rw [if_pos rfl] at this; omega
    have rs_up : ∀ o, Rps C.toGc Hs (upd H a o) vs xs g := fun o => rs.mono (Same.refl _) fun b hb => ⟨up o b fun z => hb (by rw [z]; exact g_a), (rs.live b hb).2⟩
    have rd_up : ∀ o, Rp C.toGc Hs (upd H a o) u d fd := fun o => rd.mono (Same.refl _) fun b hb => ⟨up o b fun z => hb (by rw [z]; exact fd_a), (rd.live b hb).2⟩
    have fin : ∀ {k' : Kd} {vs' : List V} {xs' : List D} {fn : Fp} {o : HO}, At C.toGc (upd H a o) a k' vs' → k'.ow = true → (∀ b, fn b ≤ g b + fd b) → Rps C.toGc Hs (upd H a o) vs' xs' fn → d' = .nd k' true xs' → Q (upd H a o) := by
      intro k' vs' xs' fn o h1 h2 h3 h4 h5
      rcases main k' vs' xs' fn o h1 h2 h3 h4 with h | ⟨fe', af, okf⟩
      · exact h
      · rw [h5] at q; exact q _ fe' af okf
    unfold setD at hs
    cases k with
    | lst =>
      dsimp only at hs
      split at hs
      · rename_i i'
        obtain ⟨j, hj, rfl⟩ := Option.map_eq_some_iff.mp hs
        rw [ry.toI]
        obtain ⟨f1', f2', h1, h2⟩ := rps_set (rs_up (.lst (vs.set j u))) (i := j) (by
          unfold ixN at hj
          split at hj
          · split at hj
            · cases hj; omega
            · cases hj
          · split at hj
            · cases hj; omega
            · cases hj) (rd_up _)
        exact .inl ⟨rfl, a, vs, i', j, rfl, rfl, at_, by rw [hl]; exact hj, fin (k' := .lst) upd_same rfl (fun b => by have := h1 b; show fd b + f2' b ≤ _; omega) h2 rfl⟩
      · cases hs
    | dk ks =>
      obtain ⟨key, hk, hs⟩ := Option.bind_eq_some_iff.mp hs
      have hlk : (ks.zip vs).length = xs.length := by rw [List.length_zip, at_.1.1, Nat.min_self, hl]
      by_cases hlim : xs.length < lim
      rotate_left
      · rw [if_neg hlim] at hs; cases hs
      rw [if_pos hlim] at hs
      split at hs
      · rename_i j hj
        cases hs
        obtain ⟨f1', f2', h1, h2⟩ := rps_set (rs_up (.dK (ks.zip (vs.set j u)))) (i := j) (by have := kpos_lt hj; have := at_.1.1; omega) (rd_up _)
        refine .inr ⟨(fun z => nomatch z), a, _, rfl, .inl ⟨_, key, at_.2, keyD_rp ry hk, by rw [hlk]; exact lim_lt (Nat.le_of_lt hlim), by rw [putK_old at_.1.2 at_.1.1 hj]⟩, fin (k' := .dk ks) ⟨⟨by rw [List.length_set]; exact at_.1.1, at_.1.2⟩, upd_same⟩ rfl (fun b => by have := h1 b; show fd b + f2' b ≤ _; omega) h2 rfl⟩
      · rename_i hj
        · cases hs
          refine .inr ⟨(fun z => nomatch z), a, _, rfl, .inl ⟨_, key, at_.2, keyD_rp ry hk, by rw [hlk]; exact lim_lt (Nat.le_of_lt hlim), by rw [putK_fresh at_.1.1 hj]⟩, fin (k' := .dk (ks ++ [key])) (fn := fun b => g b + fd b) ⟨⟨by simp [at_.1.1], ?_⟩, upd_same⟩ rfl (fun b => Nat.le_refl _) ((rs_up _).app (.cons (rd_up _) (.nil (f := f0) fun _ => rfl) (h := fd) fun b => rfl) fun b => rfl) rfl⟩
          rw [List.nodup_append]
          refine ⟨at_.1.2, by simp, fun x hx y hy => ?_⟩
          rw [List.mem_singleton] at hy
          subst hy
          intro z; subst z
          have := kpos_mem.mpr hx
          rw [hj] at this; cases this
    | dt ks =>
      obtain ⟨key, hk, hs⟩ := Option.bind_eq_some_iff.mp hs
      have hlk : (ks.zip vs).length = xs.length := by rw [List.length_zip, at_.1.1, Nat.min_self, hl]
      obtain ⟨bk, rfl, hbk⟩ := tkeyD_rp ok.sm ry hk
      by_cases hlim : xs.length < lim
      rotate_left
      · rw [if_neg hlim] at hs; cases hs
      rw [if_pos hlim] at hs
      split at hs
      · rename_i j hj
        cases hs
        obtain ⟨f1', f2', h1, h2⟩ := rps_set (rs_up (.dT (ks.zip (vs.set j u)))) (i := j) (by have := kpos_lt hj; have := at_.1.1; omega) (rd_up _)
        refine .inr ⟨(fun z => nomatch z), a, _, rfl, .inr ⟨_, key, bk, at_.2, rfl, hbk, by rw [hlk]; exact lim_lt (Nat.le_of_lt hlim), by rw [putK_old at_.1.2 at_.1.1 hj]⟩, fin (k' := .dt ks) ⟨⟨by rw [List.length_set]; exact at_.1.1, at_.1.2⟩, upd_same⟩ rfl (fun b => by have := h1 b; show fd b + f2' b ≤ _; omega) h2 rfl⟩
      · rename_i hj
        · cases hs
          refine .inr ⟨(fun z => nomatch z), a, _, rfl, .inr ⟨_, key, bk, at_.2, rfl, hbk, by rw [hlk]; exact lim_lt (Nat.le_of_lt hlim), by rw [putK_fresh at_.1.1 hj]⟩, fin (k' := .dt (ks ++ [key])) (fn := fun b => g b + fd b) ⟨⟨by simp [at_.1.1], ?_⟩, upd_same⟩ rfl (fun b => Nat.le_refl _) ((rs_up _).app (.cons (rd_up _) (.nil (f := f0) fun _ => rfl) (h := fd) fun b => rfl) fun b => rfl) rfl⟩
          rw [List.nodup_append]
          refine ⟨at_.1.2, by simp, fun x hx y hy => ?_⟩
          rw [List.mem_singleton] at hy
          subst hy
          intro z; subst z
          have := kpos_mem.mpr hx
          rw [hj] at this; cases this
    | _ => cases hs
theorem Ok.store {i : Nat} {k : Kd} {xs : List D} {y d d' : D} {w u v0 : V} {fy fd : Fp} (ok : Ok C Hs H σ e fe fd P) (ho : e.own i = some (k, xs)) (hv : σ[i]? = some (some v0)) (ry : Rp C.toGc Hs H w y fy) (rd : Rp C.toGc Hs H u d fd) (hs : setD k xs y d = some d') {Q : Hp → Prop}
    (q : ∀ H' fe', Aft Hs H Hs H' P → Ok C Hs H' σ (e.put i d') fe' f0 P → Q H') : rSetA v0 w u H Q :=
  (ok.store' ho hv ry rd hs q).elim (fun h => .inl h.2) fun h => .inr h.2
end

/-- a slot's owned list -/
def En.ownL (e : En) (i : Nat) : Option (List D) := match e.sl[i]? with
  | some (some (.nd .lst true xs)) => some xs
  | _ => none
theorem En.ownL_some {e : En} {i : Nat} {xs : List D} (h : e.ownL i = some xs) : e.sl[i]? = some (some (.nd .lst true xs)) := by
  unfold En.ownL at h
  split at h
  · rename_i xs' h'; cases h; exact h'
  · cases h
/-- list.append(x) by a name -/
def eAppN (i : Nat) (a : FE) : FE := fun e => if (e.ownL i).isSome then (a e).bind fun d e1 => (match e1.ownL i with
  | some xs => if xs.length < lim then .ok .non (e1.put i (.nd .lst true (xs ++ [d]))) else .bad
  | none => .bad) else .bad
/-- x op= a, x a scalar -/
def fAug (i : Nat) (g : D → D → Option D) (a : FE) : FS := fun e => match e.sl[i]? with
  | some (some d) => if d.sc then (a e).toS fun y e1 => .opt ((g d (frz y)).map fun z => e1.put i z) else .bad
  | _ => .bad
/-- x[y] op= a, x a list, its item a scalar -/
def fAugN (i : Nat) (g : D → D → Option D) (b a : FE) : FS := fun e => if (e.own i).isSome then (b e).toS fun y e1 => (match e1.own i with
  | some (.lst, xs) => (match cpos (.nd .lst true xs) (frz y) with
    | some j => (match xs[j]? with
      | some d => if d.sc then (a e1).toS fun w e2 => .opt ((g d (frz w)).bind fun z => (e2.ownL i).bind fun xs => (setD .lst xs (frz y) z).map fun d' => e2.put i d') else .bad
      | none => .bad)
    | none => .bad)
  | _ => .bad) else .bad
theorem pget_list {X : Cx} : PGet X (rIxL X.K) := by
  intro pins s σ H x y v u Q I rx ry h
  obtain ⟨p, xs, i, z, rfl, rfl, hq, he, q⟩ := h
  cases rx
  obtain ⟨t, rfl⟩ := ry
  obtain ⟨its, r, pl, hz⟩ := I.list hq
  obtain ⟨j, h1, h2, h3, h4, h5⟩ := atI_get he
  obtain ⟨w, ew, rw'⟩ := r.get h2
  have hl := r.length
  have hn := line63
  have fin : EP X pins σ Q w s := ⟨z, H, I, rw', q⟩
  by_cases h0 : 0 ≤ i
  · have hj : i.toNat = j := by
      rw [seqIndex_of h0 h5] at h1
      exact Option.some.inj h1
    exact wpAny_getItem_list pl.isList h0 (by omega) (by rw [hj]; simpa using ew) fin
  · have hj : (i + (its.toArray.size : Int)).toNat = j := by
      rw [seqIndex_neg (by omega) h4] at h1
      rw [List.size_toArray, ← hl]
      exact Option.some.inj h1
    exact wpAny_getItem_list_neg pl.isList (by omega) (by rw [List.size_toArray] <;> omega) (by omega) (by rw [hj]; simpa using ew) fin

section
variable {X : Cx} {C : Cc} {W : WX} {pos : Pos} {a b c : Expr} {Fa Fb : FE} {st : Stmt} {i : Nat}
theorem En.own_at {e : En} {i : Nat} (h : (e.own i).isSome = true) : ∃ k xs, e.own i = some (k, xs) := by
  obtain ⟨⟨k, xs⟩, h⟩ := Option.isSome_iff_exists.mp h
  exact ⟨k, xs, h⟩
theorem bs_setN (hp : ∀ (te ti : TE), PE X a te → PE X b ti → PS X st (tAsg te (gSub (tVar i) ti rSetA))) (ha : BE X C W a Fa) (hb : BE X C W b Fb) : BS X C W st (fSetN i Fb Fa) :=
  (hp _ _ ha hb).imp fun N σ H ⟨e, Hs, fe, P, ok, q⟩ => by
    refine firstE ok (q.bind σ) fun d e1 v Hs1 H1 fe1 fv1 a1 ok1 r1 q1 => ?_
    by_cases ho : (e1.own i).isSome = true
    · rw [if_pos ho] at q1
      obtain ⟨k0, xs0, ho'⟩ := En.own_at ho
      obtain ⟨v0, _, _, hv, _⟩ := ok1.slot (En.own_some ho')
      refine ⟨v0, hv, ?_⟩
      refine bindE ok1 (.rp r1) ((q1.shift a1).bind σ) fun y e2 w Hs2 H2 fe2 fv2 a2 ok2 r1 r2 q2 => ?_
      have q3 := q2.shift (a2.weak fun b hb => .inl hb)
      obtain ⟨Hs3, a3, ok3, r2', r1'⟩ := (ok2.fps (fun _ => rfl) (fx' := fun b => fv2 b + fv1 b) fun b => Nat.add_comm _ _).frzX r2 (.rp r1)
      have q4 := q3.shift a3
      cases h : ((e2.own i).bind fun (k, xs) => (setD k xs (frz y) d).map fun d' => e2.put i d') with
      | none => rw [h] at q4; exact q4.elim
      | some e5 =>
        rw [h] at q4
        obtain ⟨⟨k, xs⟩, h1, h2⟩ := Option.bind_eq_some_iff.mp h
        obtain ⟨d', h3, rfl⟩ := Option.map_eq_some_iff.mp h2
        exact ok3.store h1 hv r2' r1' h3 fun H' fe' a5 ok5 => q4 σ Hs3 H' fe' a5 ok5
    · rw [if_neg ho] at q1; exact q1.elim
theorem be_appN {e : Expr} (hp : ∀ t, PA X [a] t → PE X e (tBM X.K "list" rAppend (tVar i) t)) (ha : PA X [a] (tCons (canE C W Fa) tNil)) : BE X C W e (eAppN i Fa) :=
  (hp _ ha).imp fun σ H Q ⟨e, Hs, fe, P, ok, q⟩ => by
    unfold eAppN at q
    cases ho : e.ownL i with
    | none => rw [ho] at q; exact q.elim
    | some xs0 =>
      rw [ho] at q
      obtain ⟨v0, f1, f2, hv, r0, e0, okr, putr⟩ := ok.slot (En.ownL_some ho)
      refine ⟨v0, hv, ?_⟩
      obtain ⟨p, vs, g, rfl, hH, _⟩ := r0.lst ok.sm
      refine ⟨.inl ⟨rfl, vs, SqL.of hH⟩, ?_⟩
      refine firstE ok (EndE.bind q) fun d e1 v Hs1 H1 fe1 fv1 a1 ok1 r1 q1 => ?_
      cases h1 : e1.ownL i with
      | none => rw [h1] at q1; exact q1.elim
      | some xs =>
        rw [h1] at q1
        dsimp only at q1
        by_cases hlim : xs.length < lim
        · rw [if_pos hlim] at q1
          obtain ⟨v1, g1, g2, e1', rr, e2', ok2, put⟩ := ok1.slot (En.ownL_some h1)
          rw [hv] at e1'; cases e1'
          cases rr with
          | @own _ _ vs1 _ g _ at_ hw nHs rs eg =>
            refine ⟨p, vs1, v, rfl, rfl, at_, by rw [rs.len]; exact lim_lt (Nat.le_of_lt hlim), ?_⟩
            have one := ok2.wf.one
            have g_a : g p = 0 := by have := one p; have := eg p; rw [if_pos rfl] at this; omega
            have fd_a : fv1 p = 0 := by have := one p; have := eg p; rw [if_pos rfl] at this; omega
            obtain ⟨ok3, af⟩ := ok2.chg (o := .lst (vs1 ++ [v])) (a := p) (by have := eg p; rw [if_pos rfl] at this; omega)
            have up : ∀ b, b ≠ p → (upd H1 p (.lst (vs1 ++ [v]))) b = H1 b := fun b hb => upd_ne hb
            have rs2 := rs.mono (Hs' := Hs1) (H' := upd H1 p (.lst (vs1 ++ [v]))) (Same.refl _) fun b hb => ⟨up b fun z => hb (by rw [z]; exact g_a), (rs.live b hb).2⟩
            have rd2 := r1.mono (Hs' := Hs1) (H' := upd H1 p (.lst (vs1 ++ [v]))) (Same.refl _) fun b hb => ⟨up b fun z => hb (by rw [z]; exact fd_a), (r1.live b hb).2⟩
            have ok4 : Ok C Hs1 (upd H1 p (.lst (vs1 ++ [v]))) σ { e1 with sl := e1.sl.set i none } g2 (fun b => ((fun b => g b + fv1 b) b + if b = p then 1 else 0) + f0 b) P := ok3.less fun b => by have := eg b; show g b + fv1 b + (if b = p then 1 else 0) + 0 ≤ g1 b + fv1 b; omega
            refine q1 .non Hs1 _ _ f0 (a1.trans af) (put (e' := e1) (ok4.fps (fun _ => rfl) (fx' := fun b => (fun b => (fun b => g b + fv1 b) b + if b = p then 1 else 0) b + f0 b) fun _ => rfl) (.own (k := .lst) upd_same rfl nHs (rs2.app (.cons rd2 (.nil (f := f0) fun _ => rfl) (h := fv1) fun b => rfl) fun b => rfl) fun b => rfl)) r_non
        · rw [if_neg hlim] at q1; exact q1.elim
/-- x op= a -/
theorem bs_aug {op : Operator} {x : Str} {pos' : Pos} {r : R2} {g : D → D → Option D} (hN : X.N.Nodup) (hi : X.N[i]? = some x) (hl : Loc X.env.scope x) (hp : npin C i) (ho : OpR X (inplaceOp op) r) (hs : OpS C.toGc r g) (ha : BE X C W a Fa)
    (hf : X.fn x = true ∨ X.env.scope.names.lookup x = some .local) : BS X C W (.AugAssign (.Name x pos') op a pos) (fAug i g Fa) :=
  (ps_aug hN hi hl ha (ti := r) (fun pins s σ H x y v u Q I rx ry h => ho pins s σ H x y v u Q I rx ry h) hf).imp fun N σ H ⟨e, Hs, fe, P, ok, q⟩ => by
    unfold fAug at q
    cases h1 : e.sl[i]? with
    | none => rw [h1] at q; exact q.elim
    | some o =>
      cases o with
      | none => rw [h1] at q; exact q.elim
      | some d =>
        rw [h1] at q
        dsimp only at q
        by_cases hd : d.sc = true
        · rw [if_pos hd] at q
          obtain ⟨v0, f1, f2, hv, r0, _⟩ := ok.slot h1
          refine ⟨v0, hv, ?_⟩
          refine firstE ok (EndS.bind q σ) fun y e1 v Hs1 H1 fe1 fv1 a1 ok1 r1 q1 => ?_
          obtain ⟨Hs3, a3, ok3, r3, _⟩ := (ok1.fps (fun _ => rfl) (fx' := fun b => fv1 b + f0 b) fun _ => rfl).freeze r1
          have q3 := q1.shift (a1.trans a3)
          cases h : ((g d (frz y)).map fun z => e1.put i z) with
          | none => rw [h] at q3; exact q3.elim
          | some e5 =>
            rw [h] at q3
            obtain ⟨z, hz, rfl⟩ := Option.map_eq_some_iff.mp h
            have r0' : Rp C.toGc Hs3 H1 v0 d f0 := (r0.f0 hd).mono (a1.trans a3).sh fun b hb => absurd rfl hb
            refine hs ok3.sm r0' r3 hz fun w Hs5 H5 fw n rw' => ?_
            have ok5 := (ok3.new n fun _ h => absurd rfl h).fps (fe' := fe1) (fx' := fun b => fw b + f0 b) (fun _ => rfl) fun b => by show fw b + 0 = 0 + fw b; omega
            have hil : i < e1.sl.length := by
              have h3 := ok.sl.len
              have h4 := ok1.sl.len
              have := (List.getElem?_eq_some_iff.mp h1).1
              omega
            obtain ⟨fe', ok6⟩ := ok5.put rw' hil hp
            exact q3 _ Hs5 H5 fe' (n.aft ok3) ok6
        · rw [if_neg hd] at q; exact q.elim
/-- x[y] op= a -/
theorem bs_augN {op : Operator} {tpos : Pos} {o : Expr} {r : R2} {g : D → D → Option D} (hk : X.K = C.K) (hn : PE X o (tVar i)) (hb : BE X C W b Fb) (ho : OpR X (inplaceOp op) r) (hs : OpS C.toGc r g) (ha : BE X C W a Fa)
    (hst : ∀ ov iv new, augStore b ov iv new = (do holding [new, ov, iv] (setItem ov iv new); release [new, ov, iv] []; pure .next)) : BS X C W (.AugAssign (.Subscript o b tpos) op a pos) (fAugN i g Fb Fa) :=
  (ps_augS hn hb pget_list ha (tip := r) (fun pins s σ H x y v u Q I rx ry h => ho pins s σ H x y v u Q I rx ry h) set_list hst).imp fun N σ H ⟨e, Hs, fe, P, ok, q⟩ => by
    unfold fAugN at q
    by_cases ho : (e.own i).isSome = true
    · rw [if_pos ho] at q
      obtain ⟨k0, xs0, ho'⟩ := En.own_at ho
      obtain ⟨v0, _, _, hv, _⟩ := ok.slot (En.own_some ho')
      refine ⟨v0, hv, ?_⟩
      refine firstE ok (EndS.bind q σ) fun y e1 w Hs1 H1 fe1 fv1 a1 ok1 r1 q1 => ?_
      obtain ⟨Hs2, a2, ok2, r2, _⟩ := (ok1.fps (fun _ => rfl) (fx' := fun b => fv1 b + f0 b) fun _ => rfl).freeze r1
      have q2 := q1.shift (a1.trans a2)
      split at q2
      · rename_i xs h1
        split at q2
        · rename_i j hj
          split at q2
          · rename_i d hd
            by_cases hsc : d.sc = true
            · rw [if_pos hsc] at q2
              obtain ⟨v1, g1, g2, e1', rr, _⟩ := ok2.slot (En.own_some h1)
              rw [hv] at e1'; cases e1'
              obtain ⟨p, vs, gg, rfl, hH, rs, le⟩ := rr.lst ok2.sm
              obtain ⟨u, _, _, hu, ru, _⟩ := rs.get hd
              have hji : ∃ i', frz y = .int i' ∧ ixN xs.length i' = some j := by
                unfold cpos at hj
                dsimp only at hj
                split at hj
                · rename_i i' hy; exact ⟨i', hy, hj⟩
                · cases hj
              obtain ⟨i', hy, hix⟩ := hji
              rw [hy] at r2
              rw [r2.toI]
              refine ⟨p, vs, i', u, rfl, rfl, SqL.of hH, by unfold atI; rw [rs.len, hix]; exact hu, ?_⟩
              refine firstE ok2 (EndS.bind q2 σ) fun w2 e4 v4 Hs4 H4 fe4 fv4 a4 ok4 r4 q4 => ?_
              obtain ⟨Hs5, a5, ok5, r5, _⟩ := (ok4.fps (fun _ => rfl) (fx' := fun b => fv4 b + f0 b) fun _ => rfl).freeze r4
              have q5 := q4.shift (a4.trans a5)
              cases h : ((g d (frz w2)).bind fun z => (e4.ownL i).bind fun xs => (setD .lst xs (frz y) z).map fun d' => e4.put i d') with
              | none => rw [h] at q5; exact q5.elim
              | some e6 =>
                rw [h] at q5
                obtain ⟨z, hz, h2⟩ := Option.bind_eq_some_iff.mp h
                obtain ⟨xs4, h3, h4⟩ := Option.bind_eq_some_iff.mp h2
                obtain ⟨d', h5, rfl⟩ := Option.map_eq_some_iff.mp h4
                have ru' : Rp C.toGc Hs5 H4 u d f0 := (ru.f0 hsc).mono (a4.trans a5).sh fun b hb => absurd rfl hb
                refine hs ok5.sm ru' r5 hz fun w Hs7 H7 fw n rw' => ?_
                have ok7 := (ok5.new n fun _ h => absurd rfl h).fps (fe' := fe4) (fx' := fw) (fun _ => rfl) fun b => by show fw b = 0 + fw b; omega
                have rk : Rp C.toGc Hs7 H7 (.int i') (frz y) f0 := by rw [hy]; exact r_int _
                have ho4 : e4.own i = some (.lst, xs4) := by unfold En.own; rw [En.ownL_some h3]
                rcases ok7.store' ho4 hv rk rw' h5 (Q := N.nx σ) fun H' fe' a8 ok8 => q5 σ Hs7 H' fe' ((n.aft ok5).trans a8) ok8 with h | h
                · exact h.2
                · exact absurd rfl h.1
            · rw [if_neg hsc] at q2; exact q2.elim
          · exact q2.elim
        · exact q2.elim
      · exact q2.elim
    · rw [if_neg ho] at q; exact q.elim
end
end Bx

set_option Elab.async false
set_option linter.all false
set_option maxRecDepth 100000
set_option maxHeartbeats 1000000
/-! Defs and their calls. -/
namespace Bx
open PySem L2

inductive CR where
  | bad | ok (d : D) (outs : List (Option D)) | exc (x : Exc) (outs : List (Option D))
section
variable (G : Gc)
def EndC (r : CR) (vs : List V) (Hs H : Hp) (P : Addr → Prop) (Q : VK) (E : XK) : Prop := match r with
  | .bad => False
  | .ok d outs => ∀ v Hs' H' fv fo, Aft Hs H Hs' H' P → Wf Hs' H' (fun b => fo b + fv b) P → Rp G Hs' H' v d fv → Sls G Hs' H' (vs.map some) outs fo → Q v H'
  | .exc x outs => ∀ dd Hs' H' fo, Aft Hs H Hs' H' P → Wf Hs' H' fo P → Sls G Hs' H' (vs.map some) outs fo → ExD G Hs' H' dd x → E (.ref (G.ca x.c)) (some dd) H'
def spD (n : Nat) (F : List D → CR) : Sp := fun vs H Q E => vs.length = n ∧ ∃ ds Hs fa P, Wf Hs H fa P ∧ Rps G Hs H vs ds fa ∧ EndC G (F ds) vs Hs H P Q E
end
def outs (io : List Nat) : Nat → Nat → List (Option D) → List (Option D)
  | _, 0, _ => []
  | j, n + 1, [] => none :: outs io (j + 1) n []
  | j, n + 1, o :: E => (if io.contains j then o else none) :: outs io (j + 1) n E
def fDef (N : Nat) (io : List Nat) (body : FS) : List D → CR := fun ds => match body ⟨ds.map some ++ List.replicate (N - ds.length) none, none⟩ with
  | .nx e => .ok .non (outs io 0 ds.length e.sl)
  | .rt d e => .ok d (outs io 0 ds.length e.sl)
  | .exc x e => .exc x (outs io 0 ds.length e.sl)
  | _ => .bad
def pinsOf (io : List Nat) (vs : List V) : List (Nat × V) := io.filterMap fun i => (vs[i]?).map fun v => (i, v)
theorem npin_of {io : List Nat} {vs : List V} {i : Nat} {G : Gc} {xa : Option (Addr × Value × Option Addr)} (h : io.contains i = false) : npin ⟨G, pinsOf io vs, xa⟩ i := fun p hp e => by
  obtain ⟨j, hj, h2⟩ := List.mem_filterMap.mp hp
  obtain ⟨v, _, h3⟩ := Option.map_eq_some_iff.mp h2
  have : j = i := by rw [← e, ← h3]
  subst this
  rw [List.contains_iff_mem.mpr hj] at h
  cases h
theorem npins_of {io own : List Nat} {vs : List V} {G : Gc} {xa : Option (Addr × Value × Option Addr)} (h : io.all (fun j => !own.contains j) = true) : ∀ p ∈ (⟨G, pinsOf io vs, xa⟩ : Cc).pins, p.1 ∉ own := fun p hp z => by
  obtain ⟨j, hj, h2⟩ := List.mem_filterMap.mp hp
  obtain ⟨v, _, h3⟩ := Option.map_eq_some_iff.mp h2
  have h4 := List.all_eq_true.mp h j hj
  rw [← h3] at z
  simp only [Bool.not_eq_true'] at h4
  rw [List.contains_iff_mem.mpr z] at h4
  cases h4
section
variable {G : Gc} {Hs H : Hp}
theorem Rps.slots : ∀ {vs : List V} {ds : List D} {f : Fp} (k : Nat), Rps G Hs H vs ds f → Sls G Hs H (vs.map some ++ List.replicate k none) (ds.map some ++ List.replicate k none) f
  | _, _, _, 0, .nil z => .nil z
  | _, _, f, k + 1, .nil z => .no (Rps.slots (vs := []) (ds := []) k (.nil z))
  | _, _, _, k, .cons r rs e => .yes r (Rps.slots k rs) e
theorem Sls.outs (io : List Nat) : ∀ {vs : List V} {σ : L2.St} {E : List (Option D)} {f : Fp} {j : Nat}, Sls G Hs H σ E f → (∀ (i : Nat) (v : V), vs[i]? = some v → io.contains (j + i) = true → σ[i]? = some (some v)) → ∃ fo : Fp, (∀ b, fo b ≤ f b) ∧ Sls G Hs H (vs.map some) (outs io j vs.length E) fo
  | [], _, _, f, j, _, _ => ⟨f0, fun b => Nat.zero_le _, .nil fun _ => rfl⟩
  | v :: vs, _, _, f, j, .nil z, k => by
    obtain ⟨fo, h1, h2⟩ := Sls.outs io (vs := vs) (σ := []) (E := []) (f := f) (j := j + 1) (.nil z) fun i w hw hc => by
      have := k (i + 1) w (by simpa using hw) (by rw [show j + (i + 1) = j + 1 + i by omega]; exact hc)
      simp at this
    exact ⟨fo, h1, .no h2⟩
  | v :: vs, _, _, f, j, .no (o := o) (σ := σ) (e := E) r, k => by
    obtain ⟨fo, h1, h2⟩ := Sls.outs io (vs := vs) (j := j + 1) r fun i w hw hc => by
      have := k (i + 1) w (by simpa using hw) (by rw [show j + (i + 1) = j + 1 + i by omega]; exact hc)
      simpa using this
    refine ⟨fo, h1, ?_⟩
    rw [List.map_cons, List.length_cons]
    unfold Bx.outs
    have : (if io.contains j = true then (none : Option D) else none) = none := by split <;> rfl
    rw [this]
    exact .no h2
  | v :: vs, _, _, f, j, .yes (v := w0) (d := d) (f := fd) (σ := σ) (e := E) (g := g) r rs q, k => by
    obtain ⟨fo, h1, h2⟩ := Sls.outs io (vs := vs) (j := j + 1) rs fun i w hw hc => by
      have := k (i + 1) w (by simpa using hw) (by rw [show j + (i + 1) = j + 1 + i by omega]; exact hc)
      simpa using this
    rw [List.map_cons, List.length_cons]
    unfold Bx.outs
    by_cases hc : io.contains j = true
    · rw [if_pos hc]
      have := k 0 v rfl (by simpa using hc)
      simp at this
      subst this
      exact ⟨fun b => fd b + fo b, fun b => by have := q b; have := h1 b; show fd b + fo b ≤ _; omega, .yes r h2 fun b => rfl⟩
    · rw [if_neg hc]
      exact ⟨fo, fun b => by have := q b; have := h1 b; omega, .no h2⟩
theorem Wf.less {f f' : Fp} {P : Addr → Prop} (w : Wf Hs H f P) (h : ∀ b, f' b ≤ f b) : Wf Hs H f' P :=
  ⟨w.sm, fun b => by have := w.one b; have := h b; omega, fun b hb => w.own b (by have := h b; omega), fun b hb => by have := w.apart b hb; have := h b; omega, w.live⟩
end
/-- the wish of a def about its exceptions -/
abbrev WD (E : XK) : WX := fun cls d _ H => E cls d H
section
variable {P : Program} {w : World} {K : PySem.W.Frag} {mg : Str → Option Value} {base : Heap}
theorem def_ok {ca : Str → Addr} {x qual : Str} {st : Stmt} {f : Addr} {fd : FuncData} {N ps : List Str} {k : Nat} {io : List Nat} {body : FS} (F : Fun K x qual st f fd) (S : FnScope N ps (defScope st)) (hn : ps.length ≤ N.length)
    (hb : ∀ (cdv : Value) (A : Around) (outer : List Env) (s : Shared) (H : Hp) (vs : List V) (E : XK), Room k (A.deeper (PyProof.Rows.envOfC qual (defScope st) s.heap.objs.size f cdv)) →
      BSs (cxOf (L2.CX P w) P w K mg base N qual (defScope st) f cdv A outer s H E) ⟨⟨K, ca⟩, pinsOf io vs, none⟩ (WD E) (defBody st) body) : FnOk P w K mg base (L2.CX P w) (k + 1) f fd ps (spD ⟨K, ca⟩ ps.length (fDef N.length io body)) := by
  refine F.okX S (fun vs H Q E h => h.1) (fun cdv A outer s H vs Q E hr h => ⟨_, hb cdv A outer s H vs E hr, ?_⟩)
  obtain ⟨hl, ds, Hs, fa, Pr, wf, r, q⟩ := h
  have hds : ds.length = vs.length := r.len.symm
  have hs0 : Sls ⟨K, ca⟩ Hs H (L2.start N vs) (ds.map some ++ List.replicate (N.length - ds.length) none) fa := by
    unfold L2.start
    rw [hds]
    exact r.slots _
  refine ⟨⟨ds.map some ++ List.replicate (N.length - ds.length) none, none⟩, Hs, fa, Pr, ⟨wf, hs0, fun p hp => ?_, trivial⟩, ?_⟩
  · obtain ⟨j, hj, h2⟩ := List.mem_filterMap.mp hp
    obtain ⟨v, hv, rfl⟩ := Option.map_eq_some_iff.mp h2
    unfold L2.start
    have := (List.getElem?_eq_some_iff.mp hv).1
    rw [List.getElem?_append_left (by rw [List.length_map]; exact this), List.getElem?_map, hv]; rfl
  · unfold fDef at q
    -- the parameters that are handed out
    have out : ∀ {σ' : L2.St} {e' : En} {Hs' H' : Hp} {fe' fx : Fp}, Ok ⟨⟨K, ca⟩, pinsOf io vs, none⟩ Hs' H' σ' e' fe' fx Pr → ∃ fo : Fp, (∀ b, fo b ≤ fe' b) ∧ Sls ⟨K, ca⟩ Hs' H' (vs.map some) (outs io 0 ds.length e'.sl) fo := by
      intro σ' e' Hs' H' fe' fx ok
      rw [hds]
      refine Sls.outs io ok.sl fun i v hv hc => ?_
      have hm : (i, v) ∈ pinsOf io vs := List.mem_filterMap.mpr ⟨i, List.contains_iff_mem.mp (by simpa using hc), by rw [hv]; rfl⟩
      exact ok.pn _ hm
    generalize body ⟨ds.map some ++ List.replicate (N.length - ds.length) none, none⟩ = rr at q ⊢
    cases rr with
    | bad => exact q
    | bk e => exact False.elim q
    | ct e => exact False.elim q
    | nx e =>
      exact fun σ' Hs' H' fe' af ok => by
        obtain ⟨fo, le, so⟩ := out ok
        exact q .non Hs' H' f0 fo af (ok.wf.less fun b => by have := le b; show fo b + 0 ≤ fe' b + 0; omega) r_non so
    | rt d e =>
      exact fun v σ' Hs' H' fe' fv af ok rv => by
        obtain ⟨fo, le, so⟩ := out ok
        exact q v Hs' H' fv fo af (ok.wf.less fun b => by have := le b; omega) rv so
    | exc x e =>
      exact fun dd σ' Hs' H' fe' af ok ex => by
        obtain ⟨fo, le, so⟩ := out ok
        exact q dd Hs' H' fo af (ok.wf.less fun b => by have := le b; show fo b ≤ fe' b + 0; omega) so ex
end

/-! ### calls -/
def takeA : En → List AV → Option (List D × En)
  | e, [] => some ([], e)
  | e, .d x :: as => (takeA e as).map fun (ds, e2) => (x :: ds, e2)
  | e, .io i :: as => match e.sl[i]? with
    | some (some d) => (takeA (e.del i) as).map fun (ds, e2) => (d :: ds, e2)
    | _ => none
def putA : List AV → List (Option D) → En → Option En
  | [], _, e => some e
  | .d _ :: as, _ :: os, e => putA as os e
  | .io i :: as, some d :: os, e => match e.sl[i]? with
    | some none => putA as os (e.put i d)
    | _ => none
  | _, _, _ => none
def eCall (n : Nat) (F : List D → CR) (as : FA) : FE := fun e => (as e).bind fun as e1 => match takeA e1 as with
  | some (ds, e2) => if ds.length = n then (match F ds with
    | .ok d os => (match putA as os e2 with
      | some e3 => .ok d e3
      | none => .bad)
    | .exc x os => (match putA as os e2 with
      | some e3 => .exc x e3
      | none => .bad)
    | .bad => .bad) else .bad
  | none => .bad
section
variable {G : Gc} {Hs H : Hp} {σ : L2.St}
theorem Ra.take : ∀ {vs : List V} {as : List AV} {f fe : Fp} {e e2 : En} {ds : List D}, Ra G Hs H σ vs as f → Sls G Hs H σ e.sl fe → takeA e as = some (ds, e2) →
    ∃ (fa fe2 : Fp), Rps G Hs H vs ds fa ∧ Sls G Hs H σ e2.sl fe2 ∧ (∀ b, fe b + f b = fa b + fe2 b) ∧ e2.ex = e.ex
  | _, _, f, fe, e, _, _, .nil z, s, h => by cases h; exact ⟨f0, fe, .nil fun _ => rfl, s, fun b => by have := z b; show _ = 0 + fe b; omega, rfl⟩
  | _, _, _, fe, e, e2, ds, .d (x := x) (as := as) (f := f1) (g := g1) r rs q, s, h => by
    unfold takeA at h
    obtain ⟨⟨ds', e3⟩, h1, h2⟩ := Option.map_eq_some_iff.mp h
    cases h2
    obtain ⟨fa, fe2, k1, k2, k3, k4⟩ := Ra.take rs s h1
    exact ⟨fun b => f1 b + fa b, fe2, .cons r k1 fun b => rfl, k2, fun b => by have := k3 b; have := q b; show _ = f1 b + fa b + fe2 b; omega, k4⟩
  | _, _, f, fe, e, e2, ds, .io (v := v) (i := i) (as := as) hs rs, s, h => by
    unfold takeA at h
    split at h
    · rename_i d hd
      obtain ⟨⟨ds', e3⟩, h1, h2⟩ := Option.map_eq_some_iff.mp h
      cases h2
      obtain ⟨w, f1, f2, hw, rw', ef, s2⟩ := s.get hd
      rw [hs] at hw; cases hw
      obtain ⟨fa, fe2, k1, k2, k3, k4⟩ := Ra.take (e := e.del i) rs s2 h1
      exact ⟨fun b => f1 b + fa b, fe2, .cons rw' k1 fun b => rfl, k2, fun b => by have := k3 b; have := ef b; show _ = f1 b + fa b + fe2 b; omega, k4⟩
    · cases h
theorem Ra.put : ∀ {vs : List V} {as : List AV} {fo fe : Fp} {e e3 : En} {os : List (Option D)} {Hs0 H0 : Hp} {f : Fp}, Ra G Hs0 H0 σ vs as f → Sls G Hs H (vs.map some) os fo → Sls G Hs H σ e.sl fe → putA as os e = some e3 →
    ∃ fe3 : Fp, Sls G Hs H σ e3.sl fe3 ∧ (∀ b, fe3 b ≤ fe b + fo b) ∧ e3.ex = e.ex
  | _, _, fo, fe, e, _, os, _, _, _, .nil z, so, s, h => by
    unfold putA at h; cases h; exact ⟨fe, s, fun b => by omega, rfl⟩
  | _, _, fo, fe, e, e3, os, _, _, _, .d (x := x) (as := as) r rs q, so, s, h => by
    cases so with
    | no so => exact Ra.put rs so s h
    | yes r2 so q2 =>
      obtain ⟨fe3, k1, k2, k3⟩ := Ra.put rs so s h
      exact ⟨fe3, k1, fun b => by have := k2 b; have := q2 b; omega, k3⟩
  | _, _, fo, fe, e, e3, os, _, _, _, .io (v := v) (i := i) (as := as) hs rs, so, s, h => by
    cases so with
    | no so => unfold putA at h; cases h
    | @yes _ d f2 _ _ g _ r2 so q2 =>
      unfold putA at h
      split at h
      · rename_i hn
        have s2 := s.put hn r2 (h := fun b => f2 b + fe b) fun b => rfl
        have e4 : σ.set i (some v) = σ := by
          obtain ⟨hl, hv⟩ := List.getElem?_eq_some_iff.mp hs
          rw [← hv]; exact List.set_getElem_self hl
        rw [e4] at s2
        obtain ⟨fe3, k1, k2, k3⟩ := Ra.put (e := e.put i d) rs so s2 h
        exact ⟨fe3, k1, fun b => by have h1 := k2 b; have h2 := q2 b; have h3 : (fun b => f2 b + fe b) b = f2 b + fe b := rfl; omega, k3⟩
      · cases h
end
section
variable {X : Cx} {C : Cc} {W : WX} {pos : Pos} {a : Expr} {es : List Expr} {As : FA}
/-- the call itself: the arguments at hand, the callee's promise -/
theorem call_read {F : List D → CR} {n : Nat} {σ : L2.St} {H : Hp} {Q : VK} (h : canE C W (eCall n F As) σ H Q) : canA C W As σ H fun vs H1 => spD C.toGc n F vs H1 Q (WE W σ) := by
  obtain ⟨e, Hs, fe, P, ok, q⟩ := h
  refine firstA ok q.bind fun as e1 vs Hs1 H1 fe1 fv1 a1 ok1 r1 q1 => ?_
  have q2 := q1.shift a1
  cases ht : takeA e1 as with
  | none => rw [ht] at q2; exact q2.elim
  | some de =>
    obtain ⟨ds, e2⟩ := de
    rw [ht] at q2
    dsimp only at q2
    by_cases hn : ds.length = n
    rotate_left
    · rw [if_neg hn] at q2; exact q2.elim
    rw [if_pos hn] at q2
    obtain ⟨fa, fe2, rd, s2, ef, ex2⟩ := r1.take ok1.sl ht
    have one := ok1.wf.one
    refine ⟨rd.len.trans hn, ds, Hs1, fa, fun b => P b ∨ fe2 b ≠ 0, ⟨ok1.wf.sm, fun b => by have := one b; have := ef b; omega, fun b hb => ok1.wf.own b (by have := ef b; omega), fun b hb => by
      rcases hb with hb | hb
      · have := ok1.wf.apart b hb; have := ef b; omega
      · have := one b; have := ef b; omega, fun b hb => by
      rcases hb with hb | hb
      · exact ok1.wf.live b hb
      · exact (s2.live b hb).1⟩, rd, ?_⟩
    -- the state behind the call
    have back : ∀ {Hs' H' : Hp} {fo fv : Fp} {os : List (Option D)} {e3 : En}, Aft Hs1 H1 Hs' H' (fun b => P b ∨ fe2 b ≠ 0) → Wf Hs' H' (fun b => fo b + fv b) (fun b => P b ∨ fe2 b ≠ 0) → Sls C.toGc Hs' H' (vs.map some) os fo → putA as os e2 = some e3 →
        ∃ fe3, Ok C Hs' H' σ e3 fe3 fv P := by
      intro Hs' H' fo fv os e3 af wf so hp
      have s3 := s2.mono (Hs' := Hs') (H' := H') af.sh fun b hb => ⟨(af.keep b (.inr hb)).1, by rw [(af.keep b (.inr hb)).2]; exact ok1.wf.own b (by have := ef b; omega)⟩
      obtain ⟨fe3, s4, le, ex3⟩ := r1.put so s3 hp
      refine ⟨fe3, ⟨wf.sm, fun b => ?_, fun b hb => ?_, fun b hb => ?_, fun b hb => wf.live b (.inl hb)⟩, s4, ok1.pn, by rw [ex3, ex2]; exact ok1.ex.mono af.sh⟩
      · have h1 := le b; have h2 := wf.one b; have h3 := one b; have h4 := ef b
        by_cases z : fe2 b = 0
        · omega
        · have := wf.apart b (.inr z); omega
      · have h1 := le b
        by_cases z : fe2 b = 0
        · exact wf.own b (by omega)
        · rw [(af.keep b (.inr z)).2]; exact ok1.wf.own b (by have := ef b; omega)
      · have h1 := le b; have h2 := wf.apart b (.inl hb); have h3 := ok1.wf.apart b hb; have h4 := ef b
        omega
    cases hF : F ds with
    | bad => rw [hF] at q2; exact q2
    | ok d os =>
      rw [hF] at q2
      dsimp only at q2
      intro v Hs' H' fv fo af wf rv so
      cases hp : putA as os e2 with
      | none => rw [hp] at q2; exact q2.elim
      | some e3 =>
        rw [hp] at q2
        obtain ⟨fe3, ok3⟩ := back af wf so hp
        exact q2 v Hs' H' fe3 fv (af.weak fun b hb => .inl hb) ok3 rv
    | exc x os =>
      rw [hF] at q2
      dsimp only at q2
      intro dd Hs' H' fo af wf so ex
      cases hp : putA as os e2 with
      | none => rw [hp] at q2; exact q2.elim
      | some e3 =>
        rw [hp] at q2
        obtain ⟨fe3, ok3⟩ := back (fv := f0) af wf so hp
        exact q2 dd Hs' H' fe3 (af.weak fun b hb => .inl hb) ok3 ex
end
end Bx

set_option Elab.async false
set_option linter.all false
set_option maxRecDepth 100000
set_option maxHeartbeats 1000000
/-! Calls in place, the law's end, exceptions. -/
namespace Bx
open PySem L2

section
variable {X : Cx} {C : Cc} {W : WX} {pos : Pos} {a : Expr} {es : List Expr} {As : FA}
theorem be_call {k n : Nat} {f : Addr} {fd : FuncData} {ps : List Str} {Fn : List D → CR} {x : Str} {p : Pos} (F : FnOk X.prog X.w X.K X.mg X.base (L2.CX X.prog X.w) k f fd ps (spD C.toGc n Fn)) (hr : Room k X.A) (hg : Gl X x) (hm : X.mg x = some (.ref f)) (hk : PySem.W.keepIn X.K (.ref f) = true)
    (hb : Binds X.K fd ps []) (tk : Takes X W) (ha : BA X C W (a :: es) As) (hdb : (x == ("__debug__" : Str)) = false) (he : starEach (a :: es) X.env = (false, eval a X.env) :: starEach es X.env) (hpl : (backTo pos (starEach es X.env)).any (·.1) = false) :
    BE X C W (.Call (.Name x p) (a :: es) [] pos) (eCall n Fn As) :=
  (pe_callS F hr hg hm hk hb (E := WE W) (fun σ => passAt tk σ) ha hdb he hpl).imp fun σ H Q h => call_read h
theorem be_call0 {k n : Nat} {f : Addr} {fd : FuncData} {ps : List Str} {Fn : List D → CR} {x : Str} {p : Pos} (F : FnOk X.prog X.w X.K X.mg X.base (L2.CX X.prog X.w) k f fd ps (spD C.toGc n Fn)) (hr : Room k X.A) (hg : Gl X x) (hm : X.mg x = some (.ref f)) (hk : PySem.W.keepIn X.K (.ref f) = true)
    (hb : Binds X.K fd ps []) (tk : Takes X W) (hdb : (x == ("__debug__" : Str)) = false) : BE X C W (.Call (.Name x p) [] [] pos) (eCall n Fn aNil) := by
  refine ⟨fun pins s σ H Q I h => ?_⟩
  refine wpAny_Call_Name_kw (ld_glob I hg hm ?_ hdb)
  have h2 := call_read h
  obtain ⟨e, Hs, fe, P, ok, q⟩ := h2
  have q2 := q [] Hs H fe f0 (Aft.refl _ _ _) ok (.nil fun _ => rfl)
  exact PySem.W.callWith_K0 I.kIn hk (run_fnS (us := []) F hr hb (passAt tk σ) I .nil q2)
end

/-- the law's own promise -/
theorem law_sp {K : PySem.W.Frag} {ca : Str → Addr} {F : List D → CR} {H : Hp} {p : Addr} {ns : List Int} {os : List (Option D)} {E : XK} (hF : F [.nd .wl false (ns.map D.int)] = .ok (.bl true) os) (hS : SqL K H p (ns.map V.int)) :
    spD ⟨K, ca⟩ 1 F [.ref p] H (fun v _ => v = .bl true) E := by
  have ri : ∀ ns : List Int, Rps ⟨K, ca⟩ H H (ns.map V.int) (ns.map D.int) f0 := fun ns => by
    induction ns with
    | nil => exact .nil fun _ => rfl
    | cons n ns ih => exact .cons (r_int n) ih fun _ => rfl
  refine ⟨rfl, [.nd .wl false (ns.map D.int)], H, f0, fun _ => False, ⟨fun a o h => .inl h, fun b => Nat.zero_le _, fun b hb => absurd rfl hb, fun b hb => hb.elim, fun b hb => hb.elim⟩, .cons (.sh hS (ri ns) fun _ => rfl) (.nil (f := f0) fun _ => rfl) fun _ => rfl, ?_⟩
  rw [hF]
  exact fun v Hs' H' fv fo _ _ rv _ => rv.toB

/-! ### raise -/
/-- an own exception's __init__: the attributes fns in this order -/
def spXi (Ca : Addr) (fns : List Str) : Sp := fun vs H Q _ => ∃ (a : Addr) (xs : List V), vs = .ref a :: xs ∧ xs.length = fns.length ∧ H a = some (exo a Ca none) ∧
  ∀ d H', H d = none → d ≠ a → H' a = some (exo a Ca (some d)) → H' d = some (exd d (fns.zip xs).reverse) → (∀ b, b ≠ a → b ≠ d → H' b = H b) → Q .non H'
section
variable {K : PySem.W.Frag} {Ca : Addr} {H : Hp} {Q : VK} {E : XK} {vs : List V} {x y z : Str} {N : List Str}
theorem xi1 (T : OexC K Ca) (nx : PySem.W.findIn K (.ref Ca) x = some none) (h : spXi Ca [x] vs H Q E) (k : Nat) : tOst K x (tVar 0) (tVar 1) { nx := fun _ H' => Q .non H', rt := Q } (vs.map some ++ List.replicate k none) H := by
  obtain ⟨a, xs, rfl, hl, ha, q⟩ := h
  obtain ⟨v, rfl⟩ : ∃ v, xs = [v] := by
    match xs, hl with
    | [v], _ => exact ⟨v, rfl⟩
  refine ⟨v, rfl, .ref a, rfl, a, Ca, rfl, T, nx, .inl ⟨ha, fun d hd hda => q d _ hd hda upd_same ?_ fun b h1 h2 => by rw [upd_ne h1, upd_ne h2]⟩⟩
  rw [upd_ne hda, upd_same]; rfl
theorem xi2 (T : OexC K Ca) (nx : PySem.W.findIn K (.ref Ca) x = some none) (ny : PySem.W.findIn K (.ref Ca) y = some none) (h : spXi Ca [x, y] vs H Q E) (k : Nat) :
    tSeq (tOst K x (tVar 0) (tVar 1)) (tOst K y (tVar 0) (tVar 2)) { nx := fun _ H' => Q .non H', rt := Q } (vs.map some ++ List.replicate k none) H := by
  obtain ⟨a, xs, rfl, hl, ha, q⟩ := h
  obtain ⟨v, w, rfl⟩ : ∃ v w, xs = [v, w] := by
    match xs, hl with
    | [v, w], _ => exact ⟨v, w, rfl⟩
  refine ⟨v, rfl, .ref a, rfl, a, Ca, rfl, T, nx, .inl ⟨ha, fun d hd hda => ?_⟩⟩
  refine ⟨w, rfl, .ref a, rfl, a, Ca, rfl, T, ny, .inr ⟨d, [(x, v)], upd_same, by rw [upd_ne hda, upd_same], by simp, ?_⟩⟩
  refine q d _ hd hda (by rw [upd_ne hda.symm, upd_same]) (by rw [upd_same]; rfl) fun b h1 h2 => by rw [upd_ne h2, upd_ne h1, upd_ne h2]
theorem xi3 (T : OexC K Ca) (nx : PySem.W.findIn K (.ref Ca) x = some none) (ny : PySem.W.findIn K (.ref Ca) y = some none) (nz : PySem.W.findIn K (.ref Ca) z = some none) (h : spXi Ca [x, y, z] vs H Q E) (k : Nat) :
    tSeq (tOst K x (tVar 0) (tVar 1)) (tSeq (tOst K y (tVar 0) (tVar 2)) (tOst K z (tVar 0) (tVar 3))) { nx := fun _ H' => Q .non H', rt := Q } (vs.map some ++ List.replicate k none) H := by
  obtain ⟨a, xs, rfl, hl, ha, q⟩ := h
  obtain ⟨v, w, u, rfl⟩ : ∃ v w u, xs = [v, w, u] := by
    match xs, hl with
    | [v, w, u], _ => exact ⟨v, w, u, rfl⟩
  refine ⟨v, rfl, .ref a, rfl, a, Ca, rfl, T, nx, .inl ⟨ha, fun d hd hda => ?_⟩⟩
  refine ⟨w, rfl, .ref a, rfl, a, Ca, rfl, T, ny, .inr ⟨d, [(x, v)], upd_same, by rw [upd_ne hda, upd_same], by simp, ?_⟩⟩
  refine ⟨u, rfl, .ref a, rfl, a, Ca, rfl, T, nz, .inr ⟨d, [(y, w), (x, v)], by rw [upd_ne hda.symm, upd_same], by rw [upd_same], by simp, ?_⟩⟩
  refine q d _ hd hda (by rw [upd_ne hda.symm, upd_ne hda.symm, upd_same]) (by rw [upd_same]; rfl) fun b h1 h2 => by rw [upd_ne h2, upd_ne h2, upd_ne h1, upd_ne h2]
end
theorem Rps.rev {G : Gc} {Hs H : Hp} : ∀ {vs : List V} {ds : List D} {f : Fp}, Rps G Hs H vs ds f → Rps G Hs H vs.reverse ds.reverse f
  | _, _, _, .nil z => .nil z
  | _, _, f, .cons (f := f1) (g := g) r rs e => by
    rw [List.reverse_cons, List.reverse_cons]
    exact Rps.app rs.rev (.cons r (.nil (f := f0) fun _ => rfl) (h := f1) fun b => rfl) fun b => by rw [e b]; omega
def fRaise (c : Str) (fns : List Str) (as : FA) : FS := fun e => (as e).toS fun as e1 => match dvs as with
  | some ds => if ds.length = fns.length ∧ ds.length ≤ 1000 then .exc ⟨c, fns.reverse, (frzs ds).reverse⟩ e1 else .bad
  | none => .bad
theorem zip_rev {α β : Type} : ∀ {xs : List α} {ys : List β}, xs.length = ys.length → (xs.zip ys).reverse = xs.reverse.zip ys.reverse
  | [], [], _ => rfl
  | [], _ :: _, h => by cases h
  | _ :: _, [], h => by cases h
  | x :: xs, y :: ys, h => by
    have h' : xs.length = ys.length := by simpa using h
    rw [List.zip_cons_cons, List.reverse_cons, List.reverse_cons, List.reverse_cons, List.zip_append (by simp [h']), zip_rev h']; rfl
section
variable {X : Cx} {C : Cc} {W : WX} {pos : Pos} {a : Expr} {es : List Expr} {As : FA}
theorem bs_raise {k : Nat} {fI Ca : Addr} {fd : FuncData} {ps fns : List Str} {x : Str} {p pos2 : Pos} (hc : X.calm = true) (tk : Takes X W) (hca : C.ca x = Ca) (T : OexC X.K Ca) (iC : PySem.W.findIn X.K (.ref Ca) "__init__" = some (some (.ref fI))) (tI : PySem.W.typeIn X.K (.ref fI) = some (.type "function"))
    (F1 : FnOk X.prog X.w X.K X.mg X.base (L2.CX X.prog X.w) k fI fd ps (spXi Ca fns)) (hr : Room (k + 1) X.A) (hb : Binds X.K fd ps []) (hg : Gl X x) (hm : X.mg x = some (.ref Ca)) (ha : BA X C W (a :: es) As)
    (hdb : (x == ("__debug__" : Str)) = false) (he : starEach (a :: es) X.env = (false, eval a X.env) :: starEach es X.env) (hpl : (backTo pos (starEach es X.env)).any (·.1) = false) :
    BS X C W (.Raise (some (.Call (.Name x p) (a :: es) [] pos)) none pos2) (fRaise x fns As) :=
  (ps_raise hc tk (pmk_oex T iC tI F1 hr hb .nil passL hg hm ha hdb he hpl)).imp fun N σ H ⟨e, Hs, fe, P, ok, q⟩ => by
    refine firstA ok (q.bind σ) fun as e1 vs Hs1 H1 fe1 fv1 a1 ok1 r1 q1 => ?_
    cases h1 : dvs as with
    | none => rw [h1] at q1; exact q1.elim
    | some ds =>
      rw [h1] at q1
      dsimp only at q1
      by_cases hl : ds.length = fns.length ∧ ds.length ≤ 1000
      · rw [if_pos hl] at q1
        obtain ⟨Hs3, a3, ok3, r3⟩ := ok1.freezes (r1.vals h1)
        have q3 := q1.shift (a1.trans a3)
        have hvl : vs.length = ds.length := (r1.vals h1).len
        refine ⟨by omega, fun ad had => ⟨ad, vs, by rw [List.append_nil], by omega, upd_same, fun d H2 hd hda h2a h2d hoth => ⟨rfl, d, _, h2a, h2d, ?_, ?_⟩⟩⟩
        · rw [upd_ne hda] at hd; exact hd
        · have hd1 : H1 d = none := by rw [upd_ne hda] at hd; exact hd
          have eH : upd (del H2 ad) d (.xd (fns.zip vs).reverse) = upd H1 d (.xd (fns.zip vs).reverse) := by
            funext b
            by_cases hbd : b = d
            · rw [hbd, upd_same, upd_same]
            · rw [upd_ne hbd, upd_ne hbd]
              by_cases hba : b = ad
              · rw [hba, del_same, had]
              · rw [del_ne hba, hoth b hba hbd, upd_ne hba]
          rw [eH, ← hca]
          have n := New.mkS (o := .xd (fns.zip vs).reverse) ok3.sm hd1
          refine q3 d σ _ _ fe1 (n.aft ok3) ((ok3.new n fun _ h => absurd rfl h).fps (fun _ => rfl) fun _ => rfl) ⟨vs.reverse, ?_, by simp; omega, ?_⟩
          · rw [upd_same, zip_rev (by omega)]
          · exact (r3.rev).mono n.sh fun b hb => absurd rfl hb
      · rw [if_neg hl] at q1; exact q1.elim
end

/-! ### try -/
def En.suite (e : En) (i : Nat) (x : Exc) : En := ⟨e.sl.set i none, some x⟩
def En.calm (e : En) (i : Nat) : En := ⟨e.sl.set i none, none⟩
def So.calm (i : Nat) : So → So
  | .nx e => .nx (e.calm i)
  | .bk e => .bk (e.calm i)
  | .ct e => .ct (e.calm i)
  | .rt d e => .rt d (e.calm i)
  | _ => .bad
/-- try: body / except .. as n: suite -/
def fTryAs (i : Nat) (isA : Str → Option Bool) (body suite : FS) : FS := fun e => match body e with
  | .exc x e1 => (match isA x.c with
    | some true => if i < e1.sl.length then (suite (e1.suite i x)).calm i else .bad
    | some false => .exc x e1
    | none => .bad)
  | r => r
def Cc.su (C : Cc) (i : Nat) (a : Addr) (cls : Value) (d : Option Addr) : Cc := ⟨C.toGc, (i, .ref a) :: C.pins, some (a, cls, d)⟩
/-- n.f in the suite -/
def eXf (c f : Str) : FE := fun e => match e.ex with
  | some x => if x.c = c then .opt ((x.fn.zip x.xs).lookup f) e else .bad
  | none => .bad
section
variable {X : Cx} {C : Cc} {W : WX} {pos : Pos} {a : Expr} {es : List Expr} {As : FA} {Sb Ss : FS}
theorem zip_lookup {G : Gc} {Hs H : Hp} {f : Str} : ∀ {fn : List Str} {vs : List V} {xs : List D} {d : D}, Rps G Hs H vs xs f0 → (fn.zip xs).lookup f = some d → ∃ v, (fn.zip vs).lookup f = some v ∧ Rp G Hs H v d f0
  | [], _, _, _, _, h => by simp at h
  | n :: fn, _, _, d, .nil _, h => by simp at h
  | n :: fn, _, _, d, .cons (v := v) (d := d') (f := f1) (g := g1) r rs e, h => by
    rw [List.zip_cons_cons, List.lookup_cons] at h
    have hf : ∀ b, f0 b = f1 b := fun b => by have := e b; simp only [f0] at *; omega
    have hg : ∀ b, f0 b = g1 b := fun b => by have := e b; simp only [f0] at *; omega
    by_cases hfn : (f == n) = true
    · rw [hfn] at h
      dsimp only at h
      cases h
      exact ⟨v, by rw [List.zip_cons_cons, List.lookup_cons, hfn], r.fp hf⟩
    · have hfn' : (f == n) = false := by simpa using hfn
      rw [hfn'] at h
      dsimp only at h
      obtain ⟨w, h1, h2⟩ := zip_lookup (rs.fp hg) h
      exact ⟨w, by rw [List.zip_cons_cons, List.lookup_cons, hfn']; exact h1, h2⟩
theorem be_xf {i : Nat} {ad Ca : Addr} {oe : Obj} {cls : Value} {d : Option Addr} {pn : List (Addr × Obj)} {c f : Str} (T : XfC X.K Ca) (hno : PySem.W.findIn X.K (.ref Ca) f = some none) (hca : C.ca c = Ca) (hz : Zc cls d oe) (hf : ∃ vs, oe.data = .fields vs)
    (ho : PE (X.suite ad ((ad, oe) :: pn)) a (tVar i)) (hb : attributeBase a f X.env (eval a X.env) = eval a X.env) : BE (X.suite ad ((ad, oe) :: pn)) (C.su i ad cls d) W (.Attribute a f pos) (eXf c f) :=
  (pe_xf T hno hz hf ho hb).imp fun σ H Q ⟨e, Hs, fe, P, ok, q⟩ => by
    unfold eXf at q
    cases hx : e.ex with
    | none => rw [hx] at q; exact q.elim
    | some x =>
      rw [hx] at q
      dsimp only at q
      by_cases hxc : x.c = c
      rotate_left
      · rw [if_neg hxc] at q; exact q.elim
      rw [if_pos hxc] at q
      cases hl : (x.fn.zip x.xs).lookup f with
      | none => rw [hl] at q; exact q.elim
      | some dv =>
        rw [hl] at q
        have hex := ok.ex
        rw [hx] at hex
        obtain ⟨a', dd, e1, vs, h1, h2, h3⟩ := hex
        have e1' : (ad, cls, d) = (a', Value.ref ((C.su i ad cls d).ca x.c), some dd) := Option.some.inj e1
        have e2 : ad = a' := congrArg (·.1) e1'
        have e3 : d = some dd := congrArg (·.2.2) e1'
        have hp := ok.pn (i, .ref ad) List.mem_cons_self
        obtain ⟨v, h4, h5⟩ := zip_lookup h3 hl
        refine ⟨.ref ad, hp, rfl, (congrArg (fun z => z.2.1) e1').trans (by rw [hxc]; exact congrArg Value.ref hca), dd, x.fn.zip vs, v, e3, ?_, h4, ?_⟩
        · rcases ok.sm _ _ h1 with h | ⟨z, _⟩
          · exact h
          · exact z.elim
        · exact q v Hs H fe f0 (Aft.refl _ _ _) ok h5
theorem bs_tryAs {i : Nat} {x n : Str} {c : Value} {body suite : List Stmt} {b0 : Stmt} {np pos' : Pos} {isA : Str → Option Bool} (hs : X.stack = X.env :: X.outer) (hf : X.env.frame = some X.env.locals) (hN : X.N.Nodup) (hi : X.N[i]? = some n) (hln : X.env.kindOf n = some .local) (hc : Names X x c) (tk : Takes X W) (hp : npin C i) (hx : C.xa = none)
    (hk : X.K = C.K) (hA : ∀ c' b, isA c' = some b → PySem.W.exmOne C.K (.ref (C.ca c')) c = some b)
    (hb : ∀ (W' : WX) (pn : List (Addr × Obj)) (xe : Value → Shared → Prop), Takes (X.tr pn xe) W' → PassesOwn (model X.prog X.w) X.A X.env xe → BSs (X.tr pn xe) C W' body Sb)
    (hsu : ∀ (a : Addr) (oe : Obj) (cls : Value) (d : Option Addr) (pn : List (Addr × Obj)), Zc cls d oe → (∃ vs, oe.data = .fields vs) → BSs (X.suite a ((a, oe) :: pn)) (C.su i a cls d) W0 (b0 :: suite) Ss) :
    BS X C W (.Try body [.ExceptHandler (some (.Name x np)) (some n) (b0 :: suite) pos'] [] [] pos) (fTryAs i isA Sb Ss) :=
  (ps_try_as hs hf hN hi hln hc tk (tb := fun W' => canS C W' Sb) (ts := fun a cls d => canS (C.su i a cls d) W0 Ss) hb hsu).imp fun N σ H ⟨e, Hs, fe, P, ok, q⟩ => by
    refine ⟨e, Hs, fe, P, ok, ?_⟩
    unfold fTryAs at q
    generalize Sb e = r at q ⊢
    cases r with
    | bad => exact q
    | nx e1 => exact q
    | bk e1 => exact q
    | ct e1 => exact q
    | rt d e1 => exact q
    | exc x e1 =>
      intro dd σ1 Hs1 H1 fe1 a1 ok1 ex1
      dsimp only at q
      cases hcl : isA x.c with
      | none => rw [hcl] at q; exact q.elim
      | some k =>
        rw [hcl] at q
        refine ⟨k, by rw [hk]; exact hA _ _ hcl, fun hk1 => ?_, fun hk0 => ?_⟩
        · subst hk1
          intro a ha
          dsimp only at q
          by_cases hil : i < e1.sl.length
          rotate_left
          · rw [if_neg hil] at q; exact q.elim
          rw [if_pos hil] at q
          obtain ⟨fe2, ok2⟩ := ok1.del i
          have ok3 : Ok (C.su i a (.ref (C.ca x.c)) (some dd)) Hs1 H1 (σ1.set i (some (.ref a))) (e1.suite i x) fe2 f0 P := by
            refine ⟨ok2.wf, ?_, fun p hpp => ?_, a, dd, rfl, ex1⟩
            · refine ok2.sl.any (by rw [List.length_set]) fun j d hj => ?_
              by_cases e : i = j
              · subst e
                exact absurd hj (delL_at (e := e1) (vs := [i]) List.mem_cons_self d)
              · rw [List.getElem?_set_ne e]
            · rcases List.mem_cons.mp hpp with z | z
              · rw [z, List.getElem?_set_self (by rw [ok1.sl.len]; exact hil)]
              · rw [List.getElem?_set_ne (Ne.symm (hp p z))]
                exact ok1.pn p z
          refine ⟨e1.suite i x, Hs1, fe2, P, ok3, ?_⟩
          have q2 := q.shift a1
          -- the suite's end
          have done : ∀ {σ' : L2.St} {e' : En} {Hs' H' : Hp} {fe' fx : Fp}, Ok (C.su i a (.ref (C.ca x.c)) (some dd)) Hs' H' σ' e' fe' fx P → ∃ fe2, Ok C Hs' H' (σ'.set i none) (e'.calm i) fe2 fx P := by
            intro σ' e' Hs' H' fe' fx ok'
            obtain ⟨fe3, ok4⟩ := ok'.del i
            refine ⟨fe3, ⟨ok4.wf, ?_, fun p hpp => ?_, trivial⟩⟩
            · refine ok4.sl.any (by rw [List.length_set]) fun j d hj => ?_
              by_cases e : i = j
              · subst e
                exact absurd hj (delL_at (e := e') (vs := [i]) List.mem_cons_self d)
              · rw [List.getElem?_set_ne e]
            · rw [List.getElem?_set_ne (Ne.symm (hp p hpp))]
              exact ok'.pn p (List.mem_cons_of_mem _ hpp)
          generalize Ss (e1.suite i x) = r2 at q2 ⊢
          cases r2 with
          | bad => exact q2.elim
          | exc x2 e2 => exact q2.elim
          | nx e2 =>
            intro σ' Hs' H' fe' a2 ok'
            obtain ⟨fe3, ok4⟩ := done ok'
            exact q2 _ Hs' H' fe3 a2 ok4
          | bk e2 =>
            intro σ' Hs' H' fe' a2 ok'
            obtain ⟨fe3, ok4⟩ := done ok'
            exact q2 _ Hs' H' fe3 a2 ok4
          | ct e2 =>
            intro σ' Hs' H' fe' a2 ok'
            obtain ⟨fe3, ok4⟩ := done ok'
            exact q2 _ Hs' H' fe3 a2 ok4
          | rt d2 e2 =>
            intro v σ' Hs' H' fe' fv a2 ok' rv
            obtain ⟨fe3, ok4⟩ := done ok'
            exact q2 v _ Hs' H' fe3 fv a2 ok4 rv
        · subst hk0
          exact q dd σ1 Hs1 H1 fe1 a1 ok1 ex1
end
end Bx

set_option Elab.async false
set_option linter.all false
set_option maxRecDepth 100000
set_option maxHeartbeats 1000000
/-! Slices. -/
namespace Bx
open PySem L2

def cutD (xs : List D) (lo hi : Option Int) : List D := List.take (HT.sIx xs.length xs.length hi - HT.sIx xs.length 0 lo) (List.drop (HT.sIx xs.length 0 lo) xs)
def sliceD (d : D) (lo hi : Option Int) : Option D := match d with
  | .str z => if z.length ≤ lim then some (.str (cutS z lo hi)) else none
  | d => match d.seq with
    | some (true, xs) => some (.nd .lst true (cutD xs lo hi))
    | some (false, xs) => if HT.sIx xs.length 0 lo = 0 ∧ HT.sIx xs.length xs.length hi = xs.length then none else some (.nd .tup false (cutD xs lo hi))
    | none => none
def pE (a : Option FE) : En → Rs (Option Int) := fun e => match a with
  | none => .ok none e
  | some a => (a e).bind fun x e1 => match x with
    | .int i => .ok (some i) e1
    | _ => .bad
def eSl (a : FE) (lo hi : Option FE) : FE := fun e => (a e).bind fun x e1 => (pE lo e1).bind fun l e2 => (pE hi e2).bind fun h e3 => .opt (sliceD (frz x) l h) e3
def EndP (C : Cc) (W : WX) (r : Rs (Option Int)) (Hs H : Hp) (P : Addr → Prop) (σ : L2.St) (Q : Option Int → Hp → Prop) : Prop := match r with
  | .bad => False
  | .ok b e' => ∀ Hs' H' fe', Aft Hs H Hs' H' P → Ok C Hs' H' σ e' fe' f0 P → Q b H'
  | .exc x e' => XcK C W Hs H P σ x e'
def canP (C : Cc) (W : WX) (F : En → Rs (Option Int)) : TO := fun σ H Q => ∃ e Hs fe P, Ok C Hs H σ e fe f0 P ∧ EndP C W (F e) Hs H P σ Q
def BP (X : Cx) (C : Cc) (W : WX) (o : Option Expr) (F : En → Rs (Option Int)) : Prop := PO X o (canP C W F)
theorem _root_.L2.PO.imp {X : Cx} {e : Option Expr} {t t' : TO} (h : PO X e t) (i : ∀ σ H Q, t' σ H Q → t σ H Q) : PO X e t' := ⟨fun pins s σ H Q I q => h.run pins s σ H Q I (i _ _ _ q)⟩
section
variable {X : Cx} {C : Cc} {W : WX} {pos p2 : Pos} {a b : Expr} {Fa Fb : FE} {lo hi : Option Expr} {Fl Fh : Option FE}
theorem bp_none : BP X C W none (pE none) := po_none.imp fun σ H Q ⟨e, Hs, fe, P, ok, q⟩ => q Hs H fe (Aft.refl _ _ _) ok
theorem bp_some (ha : BE X C W a Fa) : BP X C W (some a) (pE (some Fa)) := (po_some ha).imp fun σ H Q ⟨e, Hs, fe, P, ok, q⟩ => by
  have qz : EndZ C W (Fa e) Hs H P σ fun x e1 => EndP C W (match x with
    | .int i => .ok (some i) e1
    | _ => .bad) Hs H P σ Q := by
    unfold pE at q
    dsimp only at q
    cases h : Fa e with
    | bad => rw [h] at q; exact q
    | ok d e1 => rw [h] at q; exact q
    | exc x e1 => rw [h] at q; exact q
  refine firstE ok qz fun d e1 v Hs1 H1 fe1 fv1 a1 ok1 r1 q1 => ?_
  cases d with
  | int i => exact ⟨i, r1.toI, q1 Hs1 H1 fe1 a1 (ok1.less fun _ => Nat.zero_le _)⟩
  | _ => exact q1.elim
theorem bindP {R : Hp → Hp → Prop} {b : En → Rs (Option Int)} {Hs H : Hp} {σ : L2.St} {e : En} {fe fv : Fp} {P : Addr → Prop} {Z : Option Int → En → Prop} {T : Option Int → Hp → Prop} (ok : Ok C Hs H σ e fe fv P) (hR : Held R fv Hs H) (h : EndZ C W (b e) Hs H P σ Z)
    (hk : ∀ d2 e2 Hs2 H2 fe2, Aft Hs H Hs2 H2 (fun b => P b ∨ fv b ≠ 0) → Ok C Hs2 H2 σ e2 fe2 fv P → R Hs2 H2 → Z d2 e2 → T d2 H2) : canP C W b σ H T := by
  refine ⟨e, Hs, fe, _, ok.holdR hR, ?_⟩
  unfold EndZ at h
  unfold EndP
  generalize b e = re at h ⊢
  cases re with
  | bad => exact h
  | exc x e' => exact XcK.unhold h fun b hb => .inl hb
  | ok d e' =>
    intro Hs2 H2 fe2 a ok2
    exact hk d e' Hs2 H2 fe2 a ((ok2.back (fun b => by have := ok.wf.one b; omega) (fun b hb => by have := ok.wf.apart b hb; omega) (fun b hb => ok.wf.own b (by omega)) a).fps (fun _ => rfl) fun b => rfl) (hR.on ok a) h
def rSlA (K : PySem.W.Frag) : V → Option Int → Option Int → Hp → VK → Prop := fun x lo hi H Q => rSlL K x lo hi H Q ∨ (rSlS x lo hi H Q ∨ rSlT K x lo hi H Q)
theorem sl_A : SlR X (rSlA X.K) := fun pins s σ H x v vl vu lo hi sl Q I rx h1 h2 h3 h => by
  rcases h with h | h | h
  · exact sl_list pins s σ H x v vl vu lo hi sl Q I rx h1 h2 h3 h
  · exact sl_str pins s σ H x v vl vu lo hi sl Q I rx h1 h2 h3 h
  · exact sl_tup pins s σ H x v vl vu lo hi sl Q I rx h1 h2 h3 h
theorem rps_cut {G : Gc} {Hs H : Hp} : ∀ {vs : List V} {ds : List D} (n : Nat), Rps G Hs H vs ds f0 → Rps G Hs H (vs.take n) (ds.take n) f0 ∧ Rps G Hs H (vs.drop n) (ds.drop n) f0
  | _, _, 0, r => ⟨.nil fun _ => rfl, r⟩
  | _, _, n + 1, .nil _ => ⟨.nil fun _ => rfl, .nil fun _ => rfl⟩
  | _, _, n + 1, .cons (f := f1) (g := g1) r rs e => by
    have hf : ∀ b, f0 b = f1 b := fun b => by have := e b; simp only [f0] at *; omega
    have hg : ∀ b, f0 b = g1 b := fun b => by have := e b; simp only [f0] at *; omega
    obtain ⟨h1, h2⟩ := rps_cut n (rs.fp hg)
    exact ⟨.cons (r.fp hf) h1 fun b => rfl, h2⟩
theorem sliceS {G : Gc} {Hs H : Hp} {v : V} {d z : D} {lo hi : Option Int} {Q : VK} (s : Sm Hs H) (r : Rp G Hs H v d f0) (hz : sliceD d lo hi = some z) (q : ∀ v Hs' H' fv, New Hs H Hs' H' fv → Rp G Hs' H' v z fv → Q v H') : rSlA G.K v lo hi H Q := by
  unfold sliceD at hz
  split at hz
  · split at hz
    · rename_i h
      cases hz
      rw [r.toS]
      exact .inr (.inl ⟨_, rfl, lim_le h, res0 s q (r_str _)⟩)
    · cases hz
  · split at hz
    · rename_i xs hs
      cases hz
      obtain ⟨a, vs, g, rfl, h1, _, rs, le⟩ := r.seq s hs
      have rz := rs.z le
      refine .inl ⟨a, vs, rfl, h1 rfl, fun p hp => ?_⟩
      have e : cutV vs lo hi = List.take (HT.sIx xs.length xs.length hi - HT.sIx xs.length 0 lo) (List.drop (HT.sIx xs.length 0 lo) vs) := by unfold cutV; rw [rs.len]
      rw [e]
      exact resLst s q (rps_cut _ (rps_cut _ rz).2).1 hp
    · rename_i xs hs
      split at hz
      · cases hz
      · rename_i hn
        cases hz
        obtain ⟨a, vs, g, rfl, _, h1, rs, le⟩ := r.seq s hs
        have rz := rs.z le
        refine .inr (.inr ⟨a, vs, rfl, h1 rfl, by rw [rs.len]; exact hn, fun p hp => ?_⟩)
        have e : cutV vs lo hi = List.take (HT.sIx xs.length xs.length hi - HT.sIx xs.length 0 lo) (List.drop (HT.sIx xs.length 0 lo) vs) := by unfold cutV; rw [rs.len]
        rw [e]
        exact resTup s q (rps_cut _ (rps_cut _ rz).2).1 hp
    · cases hz
theorem be_sl (hk : X.K = C.K) (ha : BE X C W a Fa) (hl : BP X C W lo (pE Fl)) (hh : BP X C W hi (pE Fh)) : BE X C W (.Subscript a (.Slice lo hi none p2) pos) (eSl Fa Fl Fh) :=
  (pe_slice sl_A ha hl hh).imp fun σ H Q ⟨e, Hs, fe, P, ok, q⟩ => by
    refine firstE ok q.bind fun d1 e1 v1 Hs1 H1 fe1 fv1 a1 ok1 r1 q1 => ?_
    obtain ⟨Hs2, a2, ok2, r2, _⟩ := (ok1.fps (fun _ => rfl) (fx' := fun b => fv1 b + f0 b) fun _ => rfl).freeze r1
    have q2 := q1.shift (a1.trans a2)
    refine bindP ok2 (.rp r2) q2.bind fun l e3 Hs3 H3 fe3 a3 ok3 r3 q3 => ?_
    have q3' := q3.shift (a3.weak fun b hb => .inl hb)
    refine bindP ok3 (.rp r3) q3'.bind fun u e4 Hs4 H4 fe4 a4 ok4 r4 q4 => ?_
    have q5 := q4.shift (a4.weak fun b hb => .inl hb)
    cases hz : sliceD (frz d1) l u with
    | none => rw [hz] at q5; exact q5.elim
    | some z =>
      rw [hz] at q5
      show rSlA X.K _ _ _ _ _
      rw [hk]
      exact sliceS (G := C.toGc) ok4.sm r4 hz fun v Hs6 H6 fv n rz => q5 v Hs6 H6 fe4 fv (n.aft ok4) ((ok4.new n fun _ h => absurd rfl h).fps (fun _ => rfl) fun _ => (Nat.zero_add _).symm) rz
end
end Bx

set_option Elab.async false
set_option linter.all false
set_option maxRecDepth 100000
set_option maxHeartbeats 1000000
/-! Odds and ends. -/
namespace Bx
open PySem L2
def addID : D → D → Option D
  | .int i, .int j => some (.int (i + j))
  | _, _ => none
theorem addIS {G : Gc} : OpS G (rI0 fun i j => .int (i + j)) addID := by
  intro Hs H v1 v2 d1 d2 z Q s r1 r2 hz q
  unfold addID at hz
  split at hz
  · cases hz
    rw [r1.toI, r2.toI]
    exact ⟨_, _, rfl, rfl, res0 s q (r_int _)⟩
  · cases hz
/-- truth of any value -/
def truD : D → Option Bool
  | .non => some false
  | .bl k => some k
  | .int i => some (i != 0)
  | .str x => if x.length ≤ lim then some ((x.length : Int) != 0) else none
  | .nd k _ xs => match k with
    | .lst => some (!xs.isEmpty) | .tup => some (!xs.isEmpty) | .wl => some (!xs.isEmpty) | .wt => some (!xs.isEmpty) | _ => none
  | _ => none
def tTru (a : FE) : FT := fun e => (a e).bind fun d e1 => .opt (truD d) e1
theorem Rps.empty {G : Gc} {Hs H : Hp} {vs : List V} {xs : List D} {f : Fp} (r : Rps G Hs H vs xs f) : vs.isEmpty = xs.isEmpty := by cases r <;> rfl
theorem truS {G : Gc} {Hs H : Hp} {v : V} {d : D} {f : Fp} {k : Bool} (s : Sm Hs H) (r : Rp G Hs H v d f) (h : truD d = some k) : TruV G.K v H k := by
  cases d with
  | non => cases h; rw [r.toN]; rfl
  | bl _ => cases h; rw [r.toB]; rfl
  | int _ => cases h; rw [r.toI]; rfl
  | str x =>
    have h' : (if x.length ≤ lim then some ((x.length : Int) != 0) else none) = some k := h
    split at h'
    · rename_i hl; cases h'; rw [r.toS]; exact ⟨lim_le hl, rfl⟩
    · cases h'
  | ty _ => cases h
  | nd kd o xs =>
    cases kd with
    | lst => cases h; obtain ⟨a, vs, g, rfl, h1, _, rs, _⟩ := r.seq s (b := true) (xs := xs) rfl; exact .inl ⟨vs, h1 rfl, by rw [rs.empty]⟩
    | wl => cases h; obtain ⟨a, vs, g, rfl, h1, _, rs, _⟩ := r.seq s (b := true) (xs := xs) rfl; exact .inl ⟨vs, h1 rfl, by rw [rs.empty]⟩
    | tup => cases h; obtain ⟨a, vs, g, rfl, _, h1, rs, _⟩ := r.seq s (b := false) (xs := xs) rfl; exact .inr (.inl ⟨vs, h1 rfl, by rw [rs.empty]⟩)
    | wt => cases h; obtain ⟨a, vs, g, rfl, _, h1, rs, _⟩ := r.seq s (b := false) (xs := xs) rfl; exact .inr (.inl ⟨vs, h1 rfl, by rw [rs.empty]⟩)
    | _ => cases h
theorem bt_tru {X : Cx} {C : Cc} {W : WX} {a : Expr} {Fa : FE} (hk : X.K = C.K) (h : BE X C W a Fa) (he : ∀ whole, isTrue a X.env whole = (do let v ← whole; standAt a.pos; holding [v] (truthy v))) : BT X C W a (tTru Fa) :=
  (pt_truth h he).imp fun σ H Q ⟨e, Hs, fe, P, ok, q⟩ => by
    refine firstE ok q.bind fun d e1 v Hs1 H1 fe1 fv1 a1 ok1 r1 q1 => ?_
    cases ht : truD d with
    | none => rw [ht] at q1; exact q1.elim
    | some k =>
      rw [ht] at q1
      exact ⟨k, by rw [hk]; exact truS (G := C.toGc) ok1.sm r1 ht, q1 Hs1 H1 fe1 a1 (ok1.less fun _ => Nat.zero_le _)⟩
/-- nothing is claimed of a call without fuel -/
theorem def_bad {P : Program} {w : World} {K : PySem.W.Frag} {mg : Str → Option Value} {base : Heap} {CX : CXT} {k n : Nat} {f : Addr} {fd : FuncData} {ps : List Str} {G : Gc} : FnOk P w K mg base CX k f fd ps (spD G n fun _ => .bad) :=
  ⟨fun vs H Q E h => by obtain ⟨_, _, _, _, _, _, _, q⟩ := h; exact q.elim, fun A outer s H args us vs Q E _ _ _ _ h => by obtain ⟨_, _, _, _, _, _, _, q⟩ := h; exact q.elim⟩
section
variable {X : Cx} {pos p apos : Pos} {a b e o : Expr} {es : List Expr} {x : Str} {id T : String} {r : List V → Hp → VK → Prop}
theorem be_ty {C : Cc} {W : WX} (hg : Gl X x) (hm : X.mg x = none) (hv : bootBuiltins x = some (.type T)) (hn : x ≠ "__name__") (hd : (x == ("__debug__" : Str)) = false) : BE X C W (.Name x p) (eC (.ty T)) := be_c (pe_bltn (v := .ty T) hg hm hv rfl hn hd) fun _ _ => .ty fun _ => rfl
/-! the layer's rules without automatic premises -/
theorem pcB (hc : CallR X (.builtin id) r) (hg : Gl X x) (hm : X.mg x = none) (hv : bootBuiltins x = some (.builtin id)) (hn : x ≠ "__name__") (hd : (x == ("__debug__" : Str)) = false) (hs : starEach (e :: es) X.env = (false, eval e X.env) :: starEach es X.env) (hp : (backTo pos (starEach es X.env)).any (·.1) = false) :
    ∀ t, PA X (e :: es) t → PE X (.Call (.Name x p) (e :: es) [] pos) (tCB r t) := fun _ ha => pe_callB hc hg hm hv ha hn hd hs hp
theorem pcT (hc : CallR X (.type T) r) (hg : Gl X x) (hm : X.mg x = none) (hv : bootBuiltins x = some (.type T)) (hn : x ≠ "__name__") (hd : (x == ("__debug__" : Str)) = false) (hs : starEach (e :: es) X.env = (false, eval e X.env) :: starEach es X.env) (hp : (backTo pos (starEach es X.env)).any (·.1) = false) :
    ∀ t, PA X (e :: es) t → PE X (.Call (.Name x p) (e :: es) [] pos) (tCB r t) := fun _ ha => pe_callTy hc hg hm hv ha hn hd hs hp
theorem pcApp {i : Nat} (ho : PE X o (tVar i)) (h1 : attributeBase o "append" X.env (eval o X.env) = eval o X.env) (h2 : ((backTo pos (starEach [e] X.env)).all (!·.1) && (backToKw pos (keywordEach [] X.env)).all (·.1.isSome) && decide (([e].length + ([] : List Keyword).length + if ([] : List Keyword).isEmpty then 0 else 1) < 30)) = true) (h3 : (apos.endLine == pos.line) = true)
    (h4 : starEach [e] X.env = (false, eval e X.env) :: starEach [] X.env) (h5 : (backTo pos (starEach [] X.env)).any (·.1) = false) : ∀ t, PA X [e] t → PE X (.Call (.Attribute o "append" apos) [e] [] pos) (tBM X.K "list" rAppend (tVar i) t) :=
  fun _ ha => pe_bm PySem.F.plainAttrs_list PySem.F.slot_list_append PySem.F.type_list_append mt_append ho ha h1 h2 h3 h4 h5
theorem psTup {tg : Expr} (h1 : swapsWithSole [tg] e pos.line X.env = pure false) (h2 : swappedStores [tg] e X.env = pure none) (h3 : (assignEach [tg] X.env).map (·.2) = [assign tg X.env]) : ∀ te gg, PE X e te → PG X tg gg → PS X (.Assign [tg] e pos) (tAsg te gg) := fun _ _ ha hg => ps_asg ha hg h1 h2 h3
theorem psSub {i : Nat} (hu : X.A.units + 1 < cLine) (ho : PE X o (tVar i)) (h0 : ∀ v, assign (.Subscript o b p) X.env v = (do
      let ov ← holding [v] (eval o X.env)
      let iv ← holding [v, ov] (eval b X.env)
      standAt p
      holding [v, ov, iv] (setItem ov iv v)
      release [v, ov, iv] [])) (h1 : swapsWithSole [.Subscript o b p] e pos.line X.env = pure false) (h2 : swappedStores [.Subscript o b p] e X.env = pure none) (h3 : (assignEach [.Subscript o b p] X.env).map (·.2) = [assign (.Subscript o b p) X.env]) :
    ∀ te ti, PE X e te → PE X b ti → PS X (.Assign [.Subscript o b p] e pos) (tAsg te (gSub (tVar i) ti rSetA)) := fun _ _ ha hb => ps_asg ha (pg_sub ho hb (set_A hu) h0) h1 h2 h3
end
end Bx

set_option Elab.async false
set_option linter.all false
set_option maxRecDepth 100000
set_option maxHeartbeats 1000000
/-! Instances of own classes: attributes. -/
namespace Bx
open PySem L2
theorem lookup_kpos {f : Str} : ∀ {fn : List Str} {vs : List V}, fn.length = vs.length → (fn.zip vs).lookup f = (kpos fn f).bind (vs[·]?)
  | [], [], _ => rfl
  | [], _ :: _, h => by cases h
  | _ :: _, [], h => by cases h
  | g :: fn, v :: vs, h => by
    have ih := lookup_kpos (f := f) (fn := fn) (vs := vs) (by simpa using h)
    rw [List.zip_cons_cons, List.lookup_cons]
    unfold kpos
    by_cases e : g = f
    · subst e
      rw [if_pos rfl, beq_self_eq_true]
      rfl
    · rw [if_neg e, show (f == g) = false from by simpa using fun z => e z.symm, ih]
      cases kpos fn f <;> rfl
section
variable {G : Gc} {Hs H : Hp}
theorem AtR.ins {a : Addr} {c : Str} {fn : List Str} {vs : List V} {o : Bool} (s : Sm Hs H) (h : AtR G Hs H a (.ins c fn) vs o) : fn.length = vs.length ∧ ∃ dx, H a = some (.ins (G.ca c) dx (fn.zip vs)) := by
  rcases h with h | ⟨⟨h1, dx, h2⟩, _, _⟩ | ⟨_, h⟩
  · exact h
  · exact ⟨h1, dx, sm_ins s h2⟩
  · exact h
end
/-- which classes have it in their instances -/
def Has (K : PySem.W.Frag) (ca : Str → Addr) (cs : List Str) (f : Str) : Prop := ∀ c, cs.contains c = true → Cls K (ca c) ∧ NoAttr K (ca c) f
/-- x.f, x a slot's name: the field is frozen where it stands -/
def eAtN (cs : List Str) (i : Nat) (f : Str) : FE := fun e => match e.sl[i]? with
  | some (some (.nd (.ins c fn) o xs)) => if cs.contains c then (match kpos fn f with
    | some j => (match xs[j]? with
      | some d => .ok (frz d) { e with sl := e.sl.set i (some (if o then .nd (.ins c fn) o (xs.set j (frz d)) else .nd (.ins c fn) o xs)) }
      | none => .bad)
    | none => .bad) else .bad
  | _ => .bad
section
variable {X : Cx} {C : Cc} {W : WX} {pos : Pos} {a b c : Expr} {es : List Expr} {Fa Fb Fc : FE} {As : FA}
theorem be_atN {cs : List Str} {i : Nat} {f : Str} (hk : X.K = C.K) (hC : Has C.K C.ca cs f) (ha : PE X a (tVar i)) (hb : attributeBase a f X.env (eval a X.env) = eval a X.env) : BE X C W (.Attribute a f pos) (eAtN cs i f) :=
  (pe_fld ha hb).imp fun σ H Q ⟨e, Hs, fe, P, ok, q⟩ => by
    unfold eAtN at q
    split at q
    · rename_i c fn o xs h1
      split at q
      · rename_i hc
        split at q
        · rename_i j hj
          split at q
          · rename_i d hd
            obtain ⟨v, f1, f2, e3, r1, e4, ok4, put⟩ := ok.slot h1
            refine ⟨v, e3, ?_⟩
            have ok4' : Ok C Hs H σ { e with sl := e.sl.set i none } f2 f1 P := ok4.fps (fun _ => rfl) fun b => rfl
            obtain ⟨a, vs, u, Hs4, f1', rfl, at_, hl, hu', af, ok5, ru, rn⟩ := ok4'.itemFrz r1 hd
            obtain ⟨hfl, dx, hH⟩ := at_.ins ok.sm
            obtain ⟨c1, c2⟩ := hC c hc
            refine ⟨a, _, dx, _, u, rfl, hH, by rw [hk]; exact c1, by rw [hk]; exact c2, by rw [lookup_kpos hfl, hj]; exact hu', ?_⟩
            exact q u Hs4 H _ f0 af (put (e' := e) (ok5.fps (fun _ => rfl) fun b => rfl) rn) ru
          · exact q.elim
        · exact q.elim
      · exact q.elim
    · exact q.elim
end
section
variable {C : Cc} {Hs H : Hp} {σ : L2.St} {e : En} {fe fx : Fp} {P : Addr → Prop}
/-- a slot's owned node is written anew, a value at hand may go into it -/
theorem Ok.node {i : Nat} {k : Kd} {xs : List D} {fd : Fp} (ok : Ok C Hs H σ e fe fd P) (h : e.sl[i]? = some (some (.nd k true xs))) :
    ∃ (a : Addr) (vs : List V) (g : Fp), σ[i]? = some (some (.ref a)) ∧ At C.toGc H a k vs ∧ Rps C.toGc Hs H vs xs g ∧ vs.length = xs.length ∧ (∀ o, Rps C.toGc Hs (upd H a o) vs xs g) ∧
      (∀ o u d, Rp C.toGc Hs H u d fd → Rp C.toGc Hs (upd H a o) u d fd) ∧
      ∀ (o : HO) (k' : Kd) (vs' : List V) (xs' : List D) (fn : Fp), At C.toGc (upd H a o) a k' vs' → k'.ow = true → (∀ b, fn b ≤ g b + fd b) → Rps C.toGc Hs (upd H a o) vs' xs' fn →
        ∃ fe', Aft Hs H Hs (upd H a o) P ∧ Ok C Hs (upd H a o) σ (e.put i (.nd k' true xs')) fe' f0 P := by
  obtain ⟨v, f1, f2, e1, r1, e2, ok1, put⟩ := ok.slot h
  cases r1 with
  | @own a _ vs _ g _ at_ hw nHs rs eg =>
    have ha1 : f1 a ≠ 0 := by rw [eg a, if_pos rfl]; omega
    have one := ok1.wf.one
    have up : ∀ (o : HO) b, b ≠ a → (upd H a o) b = H b := fun o b hb => upd_ne hb
    have g_a : g a = 0 := by have := one a; have := eg a; rw [if_pos rfl] at this; omega
    have fd_a : fd a = 0 := by have := one a; have := eg a; rw [if_pos rfl] at this; omega
    refine ⟨a, vs, g, e1, at_, rs, rs.len, fun o => rs.mono (Same.refl _) fun b hb => ⟨up o b fun z => hb (by rw [z]; exact g_a), (rs.live b hb).2⟩,
      fun o u d rd => rd.mono (Same.refl _) fun b hb => ⟨up o b fun z => hb (by rw [z]; exact fd_a), (rd.live b hb).2⟩, ?_⟩
    intro o k' vs' xs' fn at' w' le rs'
    obtain ⟨ok2, af⟩ := ok1.chg (o := o) (a := a) (by omega)
    have ok3 : Ok C Hs (upd H a o) σ { e with sl := e.sl.set i none } f2 (fun b => (fn b + if b = a then 1 else 0) + f0 b) P := ok2.less fun b => by have := le b; have := eg b; show fn b + (if b = a then 1 else 0) + 0 ≤ f1 b + fd b; omega
    exact ⟨_, af, put (e' := e) ok3 (.own at' w' nHs rs' fun b => rfl)⟩
end
theorem putF_old {f : Str} {v : V} : ∀ {fn : List Str} {vs : List V} {j : Nat}, fn.length = vs.length → kpos fn f = some j → putF f v (fn.zip vs) = fn.zip (vs.set j v)
  | [], _, _, _, h => by cases h
  | _ :: _, [], _, h, _ => by cases h
  | g :: fn, w :: vs, j, hl, h => by
    unfold kpos at h
    rw [List.zip_cons_cons]
    unfold putF
    by_cases e : g = f
    · rw [if_pos e] at h; cases h
      rw [if_pos e]; rfl
    · rw [if_neg e] at h
      obtain ⟨i, h1, rfl⟩ := Option.map_eq_some_iff.mp h
      rw [if_neg e, putF_old (by simpa using hl) h1]; rfl
theorem putF_new {f : Str} {v : V} : ∀ {fn : List Str} {vs : List V}, fn.length = vs.length → kpos fn f = none → putF f v (fn.zip vs) = (fn ++ [f]).zip (vs ++ [v])
  | [], [], _, _ => rfl
  | [], _ :: _, h, _ => by cases h
  | _ :: _, [], h, _ => by cases h
  | g :: fn, w :: vs, hl, h => by
    unfold kpos at h
    rw [List.zip_cons_cons]
    unfold putF
    by_cases e : g = f
    · rw [if_pos e] at h; cases h
    · rw [if_neg e] at h
      have h1 : kpos fn f = none := by simpa using h
      rw [if_neg e, putF_new (by simpa using hl) h1]; rfl
/-- a field's new value -/
def putFD (c : Str) (fn : List Str) (xs : List D) (f : Str) (d : D) : D := match kpos fn f with
  | some j => .nd (.ins c fn) true (xs.set j d)
  | none => .nd (.ins c (fn ++ [f])) true (xs ++ [d])
def En.ownI (e : En) (cs : List Str) (i : Nat) : Option (Str × List Str × List D) := match e.sl[i]? with
  | some (some (.nd (.ins c fn) true xs)) => if cs.contains c && decide (fn.length < 1000) then some (c, fn, xs) else none
  | _ => none
theorem En.ownI_some {e : En} {cs : List Str} {i : Nat} {c : Str} {fn : List Str} {xs : List D} (h : e.ownI cs i = some (c, fn, xs)) : e.sl[i]? = some (some (.nd (.ins c fn) true xs)) ∧ cs.contains c = true ∧ fn.length < 1000 := by
  unfold En.ownI at h
  split at h
  · rename_i c' fn' xs' h'
    split at h
    · rename_i hc
      cases h
      have hc' := Bool.and_eq_true_iff.mp hc
      exact ⟨h', hc'.1, of_decide_eq_true hc'.2⟩
    · cases h
  · cases h
/-- x.f = a -/
def fAtS (cs : List Str) (i : Nat) (f : Str) (a : FE) : FS := fun e => (a e).toS fun d e1 => match e1.ownI cs i with
  | some (c, fn, xs) => .nx (e1.put i (putFD c fn xs f d))
  | none => .bad
section
variable {C : Cc} {Hs H : Hp} {σ : L2.St} {e : En} {fe fx : Fp} {P : Addr → Prop}
theorem Ok.fld {cs : List Str} {i : Nat} {c f : Str} {fn : List Str} {xs : List D} {d : D} {u : V} {fd : Fp} (ok : Ok C Hs H σ e fe fd P) (ho : e.ownI cs i = some (c, fn, xs)) (rd : Rp C.toGc Hs H u d fd) :
    ∃ (a dx : Addr) (vs : List V), σ[i]? = some (some (.ref a)) ∧ H a = some (.ins (C.ca c) dx (fn.zip vs)) ∧ fn.length = vs.length ∧ (fn.zip vs).length < 1000 ∧ cs.contains c = true ∧
      ∃ fe', Aft Hs H Hs (upd H a (.ins (C.ca c) dx (putF f u (fn.zip vs)))) P ∧ Ok C Hs (upd H a (.ins (C.ca c) dx (putF f u (fn.zip vs)))) σ (e.put i (putFD c fn xs f d)) fe' f0 P := by
  obtain ⟨h1, h2, h3⟩ := En.ownI_some ho
  obtain ⟨a, vs, g, e1, at_, rs, hl, rsu, rdu, fin⟩ := ok.node h1
  obtain ⟨hfl, dx, hH⟩ := at_
  refine ⟨a, dx, vs, e1, hH, hfl, by rw [List.length_zip]; omega, h2, ?_⟩
  cases hj : kpos fn f with
  | some j =>
    obtain ⟨f1', f2', q1, q2⟩ := rps_set (rsu (.ins (C.ca c) dx (putF f u (fn.zip vs)))) (i := j) (by have := kpos_lt hj; omega) (rdu _ _ _ rd)
    have := fin (.ins (C.ca c) dx (putF f u (fn.zip vs))) (.ins c fn) (vs.set j u) (xs.set j d) _ ⟨by rw [List.length_set]; exact hfl, dx, by rw [upd_same, putF_old hfl hj]⟩ rfl (fun b => by have := q1 b; show fd b + f2' b ≤ _; omega) q2
    unfold putFD
    rw [hj]
    exact this
  | none =>
    have := fin (.ins (C.ca c) dx (putF f u (fn.zip vs))) (.ins c (fn ++ [f])) (vs ++ [u]) (xs ++ [d]) (fun b => g b + fd b) ⟨by simp [hfl], dx, by rw [upd_same, putF_new hfl hj]⟩ rfl (fun b => Nat.le_refl _)
      ((rsu _).app (.cons (rdu _ _ _ rd) (.nil (f := f0) fun _ => rfl) (h := fd) fun b => rfl) fun b => rfl)
    unfold putFD
    rw [hj]
    exact this
end
section
variable {X : Cx} {C : Cc} {W : WX} {pos : Pos} {a b c o : Expr} {Fa Fb : FE} {st : Stmt} {i : Nat}
theorem bs_atS {cs : List Str} {f : Str} {pos' : Pos} (hk : X.K = C.K) (hC : Has C.K C.ca cs f) (ho : PE X o (tVar i)) (ha : BE X C W a Fa) (hs : swapsWith a (some (.Attribute o f pos')) pos.line X.env = pure false) :
    BS X C W (.Assign [.Attribute o f pos'] a pos) (fAtS cs i f Fa) :=
  (ps_fld ho ha hs).imp fun N σ H ⟨e, Hs, fe, P, ok, q⟩ => by
    refine firstE ok (q.bind σ) fun d e1 v Hs1 H1 fe1 fv1 a1 ok1 r1 q1 => ?_
    cases h : e1.ownI cs i with
    | none => rw [h] at q1; exact q1.elim
    | some z =>
      obtain ⟨c, fn, xs⟩ := z
      rw [h] at q1
      obtain ⟨p, dx, vs, hv, hH, hl, h9, hc, fe', af, ok2⟩ := ok1.fld (f := f) h r1
      obtain ⟨c1, c2⟩ := hC c hc
      exact ⟨_, hv, p, _, dx, _, rfl, hH, by rw [hk]; exact c1, by rw [hk]; exact c2, h9, q1 σ Hs1 _ fe' (a1.trans af) ok2⟩
end
/-- x.f op= a, the field a scalar -/
def fAtAug (cs : List Str) (i : Nat) (f : Str) (g : D → D → Option D) (a : FE) : FS := fun e => match e.ownI cs i with
  | some (c, fn, xs) => (match (kpos fn f).bind (xs[·]?) with
    | some d => if d.sc then (a e).toS fun y e1 => (match e1.ownI cs i with
      | some (c', fn', xs') => if c' = c then (match g d (frz y) with
        | some z => .nx (e1.put i (putFD c' fn' xs' f z))
        | none => .bad) else .bad
      | none => .bad) else .bad
    | none => .bad)
  | none => .bad
section
variable {X : Cx} {C : Cc} {W : WX} {pos : Pos} {a b c o : Expr} {Fa Fb : FE} {st : Stmt} {i : Nat}
theorem bs_atAug {cs : List Str} {f : Str} {op : Operator} {tpos : Pos} {r : R2} {g : D → D → Option D} (hk : X.K = C.K) (hC : Has C.K C.ca cs f) (ho : PE X o (tVar i)) (hop : OpR X (inplaceOp op) r) (hs : OpS C.toGc r g) (ha : BE X C W a Fa) :
    BS X C W (.AugAssign (.Attribute o f tpos) op a pos) (fAtAug cs i f g Fa) :=
  (ps_fldaug ho ha (rd := r) (fun pins s σ H x y u v Q I rx ry h => hop pins s σ H x y u v Q I rx ry h)).imp fun N σ H ⟨e, Hs, fe, P, ok, q⟩ => by
    unfold fAtAug at q
    cases h : e.ownI cs i with
    | none => rw [h] at q; exact q.elim
    | some z =>
      obtain ⟨c, fn, xs⟩ := z
      rw [h] at q
      dsimp only at q
      cases hd : (kpos fn f).bind (xs[·]?) with
      | none => rw [hd] at q; exact q.elim
      | some d =>
        rw [hd] at q
        dsimp only at q
        by_cases hsc : d.sc = true
        · rw [if_pos hsc] at q
          obtain ⟨h1, h2, h3⟩ := En.ownI_some h
          obtain ⟨p, vs, g0, hv, at_, rs, hl, _, _, _⟩ := ok.node h1
          obtain ⟨hfl, dx, hH⟩ := at_
          obtain ⟨c1, c2⟩ := hC c h2
          obtain ⟨j, hj, hx⟩ := Option.bind_eq_some_iff.mp hd
          obtain ⟨u, g1, g2, hu, ru, _, _⟩ := rs.get hx
          refine ⟨_, hv, p, _, dx, _, u, rfl, hH, by rw [hk]; exact c1, by rw [hk]; exact c2, by rw [lookup_kpos hfl, hj]; exact hu, ?_⟩
          refine firstE ok (EndS.bind q σ) fun y e1 v Hs1 H1 fe1 fv1 a1 ok1 r1 q1 => ?_
          obtain ⟨Hs3, a3, ok3, r3, _⟩ := (ok1.fps (fun _ => rfl) (fx' := fun b => fv1 b + f0 b) fun _ => rfl).freeze r1
          have q3 := q1.shift (a1.trans a3)
          cases h' : e1.ownI cs i with
          | none => rw [h'] at q3; exact q3.elim
          | some z' =>
            obtain ⟨c', fn', xs'⟩ := z'
            rw [h'] at q3
            dsimp only at q3
            by_cases hc : c' = c
            · rw [if_pos hc] at q3
              subst hc
              cases hz : g d (frz y) with
              | none => rw [hz] at q3; exact q3.elim
              | some z =>
                rw [hz] at q3
                have r0' : Rp C.toGc Hs3 H1 u d f0 := (ru.f0 hsc).mono (a1.trans a3).sh fun b hb => absurd rfl hb
                refine hs ok3.sm r0' r3 hz fun w Hs5 H5 fw n rw' => ?_
                have ok5 := (ok3.new n fun _ h => absurd rfl h).fps (fe' := fe1) (fx' := fw) (fun _ => rfl) fun b => by show fw b = 0 + fw b; omega
                obtain ⟨p', dx', vs', hv', hH', hl', h9', hc', fe', af, ok6⟩ := ok5.fld (f := f) h' rw'
                rw [hv] at hv'; cases hv'
                exact ⟨dx', _, hH', h9', q3 σ Hs5 _ fe' ((n.aft ok3).trans af) ok6⟩
            · rw [if_neg hc] at q3; exact q3.elim
        · rw [if_neg hsc] at q; exact q.elim
end
end Bx

set_option Elab.async false
set_option linter.all false
set_option maxRecDepth 100000
set_option maxHeartbeats 1000000
/-! Methods of own classes; instances made. -/
namespace Bx
open PySem L2
def tMethE (C0 : Addr) (m : Str) (sp : Sp) (E : L2.St → XK) (ta : TE) (t : TA) : TE := fun σ H Q => ta σ H fun x H1 => ∃ a dx fs, x = V.ref a ∧ H1 a = some (.ins C0 dx fs) ∧ fs.lookup m = none ∧ t σ H1 fun vs H2 => sp (x :: vs) H2 Q (E σ)
section
variable {X : Cx} {CX : CXT} {k : Nat} {f C0 : Addr} {fd : FuncData} {ps : List Str} {sp : Sp} {E : L2.St → XK} {x m : Str} {p pos apos : Pos} {e o : Expr} {es : List Expr} {ta : TE} {t : TA}
/-- how a method call is read: the object, then the function found in its class, then the arguments -/
abbrev MethRead (X : Cx) (o : Expr) (m : Str) (args : List Expr) (apos pos : Pos) (pl : Sem Bool) : Prop :=
  eval (.Call (.Attribute o m apos) args [] pos) X.env = (eval o X.env >>= fun ov => standAt apos.atName >>= fun _ => holding [ov] (getMethod ov m pl) >>= fun fx => callWith pos fx.1 fx.2 (backTo pos (starEach args X.env)) (backToKw pos (keywordEach [] X.env)))
/-- the object's part: what is left is the call of f with the object first -/
theorem meth_of {args : List Expr} {pl : Sem Bool} (ho : PE X o ta) (c : Cls X.K C0) (hm : Meth X.K C0 m f) (rd : MethRead X o m args apos pos pl)
    (rest : ∀ (a : Addr) (pins : List (Addr × Obj)) (s : Shared) (σ : L2.St) (H : Hp) (Q : VK), Inv X pins σ H s → t σ H (fun vs H2 => sp (.ref a :: vs) H2 Q (E σ)) →
      wpAny (model X.prog X.w) X.A (callWith pos (.ref f) [.ref a] (backTo pos (starEach args X.env)) (backToKw pos (keywordEach [] X.env))) (EP X pins σ Q) X.xe s) :
    PE X (.Call (.Attribute o m apos) args [] pos) (tMethE C0 m sp E ta t) := by
  constructor
  intro pins s σ H Q I wish
  apply PySem.W.methodCall_KW (pl := pl) _ rd
  apply thn (ho.run pins s σ H _ I wish)
  rintro _ s1 ⟨_, H1, I1, rv, a, dx, fs, rfl, at_, no, more⟩
  cases rv
  exact getmeth_ok I1 at_ c hm no (rest a pins s1 σ H1 Q I1 more)
theorem pe_methE {pl : Sem Bool} (ho : PE X o ta) (c : Cls X.K C0) (hm : Meth X.K C0 m f) (F : FnOk X.prog X.w X.K X.mg X.base CX k f fd ps sp) (hr : Room k X.A) (hb : Binds X.K fd ps []) (hx : ∀ σ, PassesAt CX X σ (E σ)) (ha : PA X (e :: es) t)
    (hst : starEach (e :: es) X.env = (false, eval e X.env) :: starEach es X.env) (hpl : (backTo pos (starEach es X.env)).any (·.1) = false) (rd : MethRead X o m (e :: es) apos pos pl) : PE X (.Call (.Attribute o m apos) (e :: es) [] pos) (tMethE C0 m sp E ta t) :=
  meth_of ho c hm rd fun a pins s σ H Q I wish => PySem.W.callWith_K (h₀ := X.base) I.ok.mod.kin hm.kp
    (thn (ha.run pos pins s σ H _ I wish) fun us s2 ⟨vs, H2, I2, rs, done⟩ => ⟨I2.kIn, run_fnS (us := .ref a :: us) (vs := .ref a :: vs) F hr hb (hx σ) I2 (.cons rfl rs) done⟩) hst hpl
theorem pe_methE0 {pl : Sem Bool} (ho : PE X o ta) (c : Cls X.K C0) (hm : Meth X.K C0 m f) (F : FnOk X.prog X.w X.K X.mg X.base CX k f fd ps sp) (hr : Room k X.A) (hb : Binds X.K fd ps []) (hx : ∀ σ, PassesAt CX X σ (E σ)) (rd : MethRead X o m [] apos pos pl) :
    PE X (.Call (.Attribute o m apos) [] [] pos) (tMethE C0 m sp E ta tNil) :=
  meth_of ho c hm rd fun a pins s σ H Q I wish => PySem.W.callWith_K0 I.kIn hm.kp (run_fnS (us := [.ref a]) (vs := [.ref a]) F hr hb (hx σ) I (.cons rfl .nil) wish)
end
/-- x.m(..), x a slot's name, an instance of c0; the instance is handed on to be changed -/
def eMeth (c0 m : Str) (n i : Nat) (F : List D → CR) (as : FA) : FE := fun e => match e.sl[i]? with
  | some (some (.nd (.ins c fn) _ _)) => if c = c0 ∧ kpos fn m = none then eCall n F (aIo i as) e else .bad
  | _ => .bad
section
variable {X : Cx} {C : Cc} {W : WX} {pos : Pos} {a o : Expr} {es : List Expr} {As : FA} {i : Nat}
theorem io_read {σ : L2.St} {H : Hp} {R : List V → Hp → Prop} {e : En} {Hs : Hp} {fe : Fp} {P : Addr → Prop} {v : V} (ok : Ok C Hs H σ e fe f0 P) (hv : σ[i]? = some (some v)) (q : EndA C W (aIo i As e) Hs H P σ R) :
    canA C W As σ H fun vs H1 => R (v :: vs) H1 := by
  unfold aIo at q
  cases h1 : e.sl[i]? with
  | none => rw [h1] at q; exact q.elim
  | some o =>
    cases o with
    | none => rw [h1] at q; exact q.elim
    | some d =>
      rw [h1] at q
      refine firstA ok (EndA.bind q) fun d2 e2 v2 Hs2 H2 fe2 fv2 a2 ok2 r2 q2 => ?_
      exact q2 _ Hs2 H2 fe2 fv2 a2 ok2 (.io hv r2)
theorem meth_read {F : List D → CR} {n : Nat} {c0 m : Str} {σ : L2.St} {H : Hp} {Q : VK} (h : canE C W (eMeth c0 m n i F As) σ H Q) : tMethE (C.ca c0) m (spD C.toGc n F) (WE W) (tVar i) (canA C W As) σ H Q := by
  obtain ⟨e, Hs, fe, P, ok, q⟩ := h
  unfold eMeth at q
  split at q
  · rename_i c fn o xs h1
    split at q
    · rename_i hc
      obtain ⟨rfl, hm⟩ := hc
      obtain ⟨v, f1, f2, e3, r1, e4, ok4, put⟩ := ok.slot h1
      refine ⟨v, e3, ?_⟩
      obtain ⟨p, vs, g, rfl, rs, le, at_⟩ := r1.nd ok.sm
      obtain ⟨hfl, dx, hH⟩ := at_.ins ok.sm
      refine ⟨p, dx, _, rfl, hH, by rw [lookup_kpos hfl, hm]; rfl, ?_⟩
      have h2 := call_read (C := C) (W := W) (F := F) (n := n) (As := aIo i As) (σ := σ) (H := H) (Q := Q) ⟨e, Hs, fe, P, ok, q⟩
      obtain ⟨e', Hs', fe', P', ok', q'⟩ := h2
      exact io_read ok' e3 q'
    · exact q.elim
  · exact q.elim
theorem be_meth {k n : Nat} {f : Addr} {fd : FuncData} {ps : List Str} {Fn : List D → CR} {c0 m : Str} {Ca : Addr} {apos : Pos} {pl : Sem Bool} (hca : C.ca c0 = Ca) (c : Cls X.K Ca) (hm : Meth X.K Ca m f) (F : FnOk X.prog X.w X.K X.mg X.base (L2.CX X.prog X.w) k f fd ps (spD C.toGc n Fn)) (hr : Room k X.A)
    (hb : Binds X.K fd ps []) (tk : Takes X W) (ho : PE X o (tVar i)) (ha : BA X C W (a :: es) As) (hst : starEach (a :: es) X.env = (false, eval a X.env) :: starEach es X.env) (hpl : (backTo pos (starEach es X.env)).any (·.1) = false)
    (ht : MethRead X o m (a :: es) apos pos pl) :
    BE X C W (.Call (.Attribute o m apos) (a :: es) [] pos) (eMeth c0 m n i Fn As) :=
  (pe_methE ho c hm F hr hb (E := WE W) (fun σ => passAt tk σ) ha hst hpl ht).imp fun σ H Q h => by rw [← hca]; exact meth_read h
theorem be_meth0 {k n : Nat} {f : Addr} {fd : FuncData} {ps : List Str} {Fn : List D → CR} {c0 m : Str} {Ca : Addr} {apos : Pos} {pl : Sem Bool} (hca : C.ca c0 = Ca) (c : Cls X.K Ca) (hm : Meth X.K Ca m f) (F : FnOk X.prog X.w X.K X.mg X.base (L2.CX X.prog X.w) k f fd ps (spD C.toGc n Fn)) (hr : Room k X.A)
    (hb : Binds X.K fd ps []) (tk : Takes X W) (ho : PE X o (tVar i))
    (ht : MethRead X o m [] apos pos pl) :
    BE X C W (.Call (.Attribute o m apos) [] [] pos) (eMeth c0 m n i Fn aNil) :=
  (pe_methE0 ho c hm F hr hb (E := WE W) (fun σ => passAt tk σ) ht).imp fun σ H Q h => by
    have h2 := meth_read h
    obtain ⟨v, hv, p, dx, fs, rfl, hH, hl, e, Hs, fe, P, ok, q⟩ := h2
    rw [← hca]
    exact ⟨_, hv, p, dx, fs, rfl, hH, hl, q [] Hs H fe f0 (Aft.refl _ _ _) ok (.nil fun _ => rfl)⟩
end
end Bx

set_option Elab.async false
set_option linter.all false
set_option maxRecDepth 100000
set_option maxHeartbeats 1000000
/-! Instances of own classes made. -/
namespace Bx
open PySem L2
def tMakeE (C0 : Addr) (sp : Sp) (E : L2.St → XK) (t : TA) : TE := fun σ H Q => t σ H fun vs H1 => ∀ x dx, H1 x = none → H1 dx = none → dx ≠ x →
  sp (.ref x :: vs) (upd (upd H1 dx (.own x)) x (.ins C0 dx [])) (fun v H2 => v = .non ∧ Q (.ref x) H2) (E σ)
section
variable {X : Cx} {CX : CXT} {k : Nat} {f C0 : Addr} {fd : FuncData} {ps : List Str} {sp : Sp} {E : L2.St → XK} {x m : Str} {p pos apos : Pos} {e o : Expr} {es : List Expr} {ta : TE} {t : TA}
/-- an instance is made and its __init__ is run -/
theorem run_makeE {pins : List (Addr × Obj)} {σ : L2.St} {H : Hp} {s : Shared} {Q : VK} {us : List Value} {vs : List V} {E : XK} (M : Mk X.K C0 f) (F : FnOk X.prog X.w X.K X.mg X.base CX k f fd ps sp) (room : Room (k + 1) X.A) (bd : Binds X.K fd ps []) (hx : PassesAt CX X σ E) (I : Inv X pins σ H s) (rs : Vals vs us)
    (wish : ∀ x dx, H x = none → H dx = none → dx ≠ x → sp (.ref x :: vs) (upd (upd H dx (.own x)) x (.ins C0 dx [])) (fun v H2 => v = .non ∧ Q (.ref x) H2) E) : wpAny (model X.prog X.w) X.A (call (.ref C0) us) (EP X pins σ Q) X.xe s := by
  obtain ⟨n, en⟩ : ∃ n, n = s.heap.objs.size := ⟨_, rfl⟩
  have born := Inv.made (C := C0) I
  have args : Vals (.ref (n + 1) :: vs) (.ref (n + 1) :: us) := .cons rfl rs
  have init := wish (n + 1) n (I.hok.fresh (en ▸ Nat.le_succ _)) (I.hok.fresh (en ▸ Nat.le_refl _)) (Nat.ne_of_lt (Nat.lt_succ_self n))
  have many : (.ref (n + 1) :: us).length = ps.length := args.length.symm.trans (F.len _ _ _ _ init)
  subst en
  have bound := bd _ (.ref (s.heap.objs.size + 1) :: us) born.kIn (by rw [List.append_nil]; exact many)
  rw [List.append_nil] at bound
  apply wpAny_call
  apply make_map (f := f) I.kIn M.makes M.init (beq_iff_eq.mp M.fn)
  apply codeAny_mono (F.run _ X.stack _ _ _ _ _ _ E (room.make C0 us []) (born.env0.make C0 us []) bound args init)
  rintro ((e | fl)) s' end_
  · exact hx pins _ _ e s' born end_
  cases fl <;> first | exact False.elim end_ | skip
  obtain ⟨_, H', I', rv, rfl, fin⟩ := born.after end_
  exact ⟨rv, .ref (s.heap.objs.size + 1), H', I', rfl, fin⟩
theorem pe_makeE (M : Mk X.K C0 f) (F : FnOk X.prog X.w X.K X.mg X.base CX k f fd ps sp) (hr : Room (k + 1) X.A) (hg : Gl X x) (hm : X.mg x = some (.ref C0)) (hb : Binds X.K fd ps []) (hx : ∀ σ, PassesAt CX X σ (E σ)) (ha : PA X (e :: es) t) (hdb : (x == ("__debug__" : Str)) = false)
    (he : starEach (e :: es) X.env = (false, eval e X.env) :: starEach es X.env) (hpl : (backTo pos (starEach es X.env)).any (·.1) = false) : PE X (.Call (.Name x p) (e :: es) [] pos) (tMakeE C0 sp E t) :=
  ⟨fun pins s σ H Q I wish => wpAny_Call_Name_kw (ld_glob I hg hm (PySem.W.callWith_K (h₀ := X.base) I.ok.mod.kin M.kp (thn (ha.run pos pins s σ H _ I wish) fun _ _ ⟨_, _, I1, rs, more⟩ => ⟨I1.kIn, run_makeE M F hr hb (hx σ) I1 rs more⟩) he hpl) hdb)⟩
theorem pe_makeE0 (M : Mk X.K C0 f) (F : FnOk X.prog X.w X.K X.mg X.base CX k f fd ps sp) (hr : Room (k + 1) X.A) (hg : Gl X x) (hm : X.mg x = some (.ref C0)) (hb : Binds X.K fd ps []) (hx : ∀ σ, PassesAt CX X σ (E σ)) (hdb : (x == ("__debug__" : Str)) = false) : PE X (.Call (.Name x p) [] [] pos) (tMakeE C0 sp E tNil) :=
  ⟨fun _ _ σ _ _ I wish => wpAny_Call_Name_kw (ld_glob I hg hm (PySem.W.callWith_K0 I.kIn M.kp (run_makeE (us := []) M F hr hb (hx σ) I .nil wish)) hdb)⟩
end
/-- C(..) -/
def eNew (c0 : Str) (n : Nat) (F : List D → CR) (as : FA) : FE := fun e => (as e).bind fun as e1 => match takeA e1 as with
  | some (ds, e2) => if ds.length = n then (match F (.nd (.ins c0 []) true [] :: ds) with
    | .ok .non (some d :: os) => (match putA as os e2 with
      | some e3 => .ok d e3
      | none => .bad)
    | .exc x (_ :: os) => (match putA as os e2 with
      | some e3 => .exc x e3
      | none => .bad)
    | _ => .bad) else .bad
  | none => .bad
section
variable {X : Cx} {C : Cc} {W : WX} {pos : Pos} {a : Expr} {es : List Expr} {As : FA}
theorem New.junk {Hs H : Hp} {p : Addr} {o : HO} (s : Sm Hs H) (hp : H p = none) : New Hs H Hs (upd H p o) f0 := by
  refine ⟨Same.refl _, fun b hb => ⟨upd_ne fun z => hb (z ▸ hp), rfl⟩, fun b hb => ?_, fun a u ha => ?_, fun b => Nat.zero_le _, fun b hb => absurd rfl hb⟩
  · by_cases z : b = p
    · rw [z]; exact hp
    · rw [upd_ne z] at hb; exact hb
  · have z : a ≠ p := fun z => by
      have := s.live (z ▸ hp)
      rw [ha] at this; cases this
    rw [upd_ne z]; exact s a u ha
theorem make_read {F : List D → CR} {n : Nat} {c0 : Str} {σ : L2.St} {H : Hp} {Q : VK} (h : canE C W (eNew c0 n F As) σ H Q) : tMakeE (C.ca c0) (spD C.toGc (n + 1) F) (WE W) (canA C W As) σ H Q := by
  obtain ⟨e, Hs, fe, P, ok, q⟩ := h
  refine firstA ok q.bind fun as e1 vs Hs1 H1 fe1 fv1 a1 ok1 r1 q1 x dx hx hdx hne => ?_
  have q2 := q1.shift a1
  cases ht : takeA e1 as with
  | none => rw [ht] at q2; exact q2.elim
  | some de =>
    obtain ⟨ds, e2⟩ := de
    rw [ht] at q2
    dsimp only at q2
    by_cases hn : ds.length = n
    rotate_left
    · rw [if_neg hn] at q2; exact q2.elim
    rw [if_pos hn] at q2
    have n1 := New.junk (o := .own x) ok1.sm hdx
    have ok1a := (ok1.new n1 fun b hb => (r1.live b hb).1).fps (fe' := fe1) (fx' := fv1) (fun _ => rfl) fun b => by show fv1 b = fv1 b + 0; omega
    have hx2 : (upd H1 dx (.own x)) x = none := by rw [upd_ne fun z => hne z.symm]; exact hx
    have n2 := New.obj (o := .ins (C.ca c0) dx []) ok1a.sm hx2
    have r1a := r1.mono n1.sh fun b hb => ⟨(n1.keep b (r1.live b hb).1).1, (r1.live b hb).2⟩
    have ok1b := (ok1a.new n2 fun b hb => (r1a.live b hb).1).fps (fe' := fe1) (fx' := fun b => fv1 b + if b = x then 1 else 0) (fun _ => rfl) fun b => rfl
    have r1b := r1a.mono n2.sh fun b hb => ⟨(n2.keep b (r1a.live b hb).1).1, (r1a.live b hb).2⟩
    have a1b := (n1.aft ok1).trans (n2.aft ok1a)
    have q3 := q2.shift a1b
    have nHs : Hs1 x = none := (n2.own x (by rw [if_pos rfl]; omega)).2
    have hHx : (upd (upd H1 dx (.own x)) x (.ins (C.ca c0) dx [])) x = some (.ins (C.ca c0) dx []) := upd_same
    clear n1 n2 ok1a r1a a1b q2
    generalize upd (upd H1 dx (.own x)) x (.ins (C.ca c0) dx []) = H2 at hHx ok1b r1b q3 ⊢
    obtain ⟨fa, fe2, rd, s2, ef, ex2⟩ := r1b.take ok1b.sl ht
    have one := ok1b.wf.one
    have one' : ∀ b, fe1 b + (fv1 b + if b = x then 1 else 0) ≤ 1 := one
    refine ⟨by rw [List.length_cons, rd.len, hn], .nd (.ins c0 []) true [] :: ds, Hs1, fun b => fa b + if b = x then 1 else 0, fun b => P b ∨ fe2 b ≠ 0, ⟨ok1b.wf.sm, fun b => by have := one' b; have := ef b; show fa b + (if b = x then 1 else 0) ≤ 1; omega, fun b hb => ok1b.wf.own b (by have := ef b; show fe1 b + (fv1 b + if b = x then 1 else 0) ≠ 0; have hb' : fa b + (if b = x then 1 else 0) ≠ 0 := hb; omega), fun b hb => by
      show fa b + (if b = x then 1 else 0) = 0
      rcases hb with hb | hb
      · have h3 : fe1 b + (fv1 b + if b = x then 1 else 0) = 0 := ok1b.wf.apart b hb
        have := ef b; omega
      · have := one' b; have := ef b; omega, fun b hb => by
      rcases hb with hb | hb
      · exact ok1b.wf.live b hb
      · exact (s2.live b hb).1⟩, .cons (f := fun b => if b = x then 1 else 0) (g := fa) (.own (f := f0) ⟨rfl, dx, hHx⟩ rfl nHs (.nil fun _ => rfl) fun b => (Nat.zero_add _).symm) rd fun b => Nat.add_comm _ _, ?_⟩
    have back : ∀ {Hs' H' : Hp} {fo fv : Fp} {os : List (Option D)} {e3 : En}, Aft Hs1 H2 Hs' H' (fun b => P b ∨ fe2 b ≠ 0) → Wf Hs' H' (fun b => fo b + fv b) (fun b => P b ∨ fe2 b ≠ 0) → Sls C.toGc Hs' H' (vs.map some) os fo → putA as os e2 = some e3 →
        ∃ fe3, Ok C Hs' H' σ e3 fe3 fv P := by
      intro Hs' H' fo fv os e3 af wf so hp
      have s3 := s2.mono (Hs' := Hs') (H' := H') af.sh fun b hb => ⟨(af.keep b (.inr hb)).1, by rw [(af.keep b (.inr hb)).2]; exact ok1b.wf.own b (by have := ef b; show fe1 b + (fv1 b + if b = x then 1 else 0) ≠ 0; omega)⟩
      obtain ⟨fe3, s4, le, ex3⟩ := r1b.put so s3 hp
      refine ⟨fe3, ⟨wf.sm, fun b => ?_, fun b hb => ?_, fun b hb => ?_, fun b hb => wf.live b (.inl hb)⟩, s4, ok1.pn, by rw [ex3, ex2]; exact ok1b.ex.mono af.sh⟩
      · have h1 := le b; have h2 := wf.one b; have h3 := one' b; have h4 := ef b
        by_cases z : fe2 b = 0
        · omega
        · have := wf.apart b (.inr z); omega
      · have h1 := le b
        by_cases z : fe2 b = 0
        · exact wf.own b (by omega)
        · rw [(af.keep b (.inr z)).2]; exact ok1b.wf.own b (by have := ef b; show fe1 b + (fv1 b + if b = x then 1 else 0) ≠ 0; omega)
      · have h1 := le b; have h2 := wf.apart b (.inl hb); have h4 := ef b
        have h3 : fe1 b + (fv1 b + if b = x then 1 else 0) = 0 := ok1b.wf.apart b hb
        omega
    cases hF : F (.nd (.ins c0 []) true [] :: ds) with
    | bad => rw [hF] at q3; exact q3
    | ok d os =>
      rw [hF] at q3
      intro v Hs' H' fv fo af wf rv so
      cases d with
      | non =>
        refine ⟨rv.toN, ?_⟩
        cases so with
        | no so => exact q3.elim
        | @yes _ d f2 _ os' g _ r2 so q4 =>
          dsimp only at q3
          cases hp : putA as os' e2 with
          | none => rw [hp] at q3; exact q3.elim
          | some e3 =>
            rw [hp] at q3
            obtain ⟨fe3, ok3⟩ := back (fo := g) (fv := f2) af (wf.less fun b => by have := q4 b; show g b + f2 b ≤ fo b + fv b; omega) so hp
            exact q3 _ Hs' H' fe3 f2 (af.weak fun b hb => .inl hb) ok3 r2
      | _ => exact q3.elim
    | exc x os =>
      rw [hF] at q3
      intro dd Hs' H' fo af wf so ex
      have key : ∀ os' (g : Fp), (∀ b, g b ≤ fo b) → Sls C.toGc Hs' H' (vs.map some) os' g → EndE C W (match putA as os' e2 with
          | some e3 => .exc x e3
          | none => .bad) Hs1 H2 P σ Q → WE W σ (.ref (C.ca x.c)) (some dd) H' := by
        intro os' g le so q5
        cases hp : putA as os' e2 with
        | none => rw [hp] at q5; exact q5.elim
        | some e3 =>
          rw [hp] at q5
          obtain ⟨fe3, ok3⟩ := back (fo := g) (fv := f0) af (wf.less fun b => by have := le b; show g b + 0 ≤ fo b; omega) so hp
          exact q5 dd Hs' H' fe3 (af.weak fun b hb => .inl hb) ok3 ex
      cases so with
      | no so => exact key _ _ (fun b => Nat.le_refl _) so q3
      | yes r2 so q4 => exact key _ _ (fun b => by have := q4 b; omega) so q3
theorem be_make {k n : Nat} {f : Addr} {fd : FuncData} {ps : List Str} {Fn : List D → CR} {c0 x : Str} {Ca : Addr} {p : Pos} (hca : C.ca c0 = Ca) (M : Mk X.K Ca f) (F : FnOk X.prog X.w X.K X.mg X.base (L2.CX X.prog X.w) k f fd ps (spD C.toGc (n + 1) Fn)) (hr : Room (k + 1) X.A) (hg : Gl X x) (hm : X.mg x = some (.ref Ca))
    (hb : Binds X.K fd ps []) (tk : Takes X W) (ha : BA X C W (a :: es) As) (hdb : (x == ("__debug__" : Str)) = false) (he : starEach (a :: es) X.env = (false, eval a X.env) :: starEach es X.env) (hpl : (backTo pos (starEach es X.env)).any (·.1) = false) :
    BE X C W (.Call (.Name x p) (a :: es) [] pos) (eNew c0 n Fn As) :=
  (pe_makeE M F hr hg hm hb (E := WE W) (fun σ => passAt tk σ) ha hdb he hpl).imp fun σ H Q h => by rw [← hca]; exact make_read h
theorem be_make0 {k : Nat} {f : Addr} {fd : FuncData} {ps : List Str} {Fn : List D → CR} {c0 x : Str} {Ca : Addr} {p : Pos} (hca : C.ca c0 = Ca) (M : Mk X.K Ca f) (F : FnOk X.prog X.w X.K X.mg X.base (L2.CX X.prog X.w) k f fd ps (spD C.toGc 1 Fn)) (hr : Room (k + 1) X.A) (hg : Gl X x) (hm : X.mg x = some (.ref Ca))
    (hb : Binds X.K fd ps []) (tk : Takes X W) (hdb : (x == ("__debug__" : Str)) = false) :
    BE X C W (.Call (.Name x p) [] [] pos) (eNew c0 0 Fn aNil) :=
  (pe_makeE0 M F hr hg hm hb (E := WE W) (fun σ => passAt tk σ) hdb).imp fun σ H Q h => by
    rw [← hca]
    have h2 := make_read (C := C) (W := W) (F := Fn) (n := 0) (As := aNil) h
    obtain ⟨e, Hs, fe, P, ok, q⟩ := h2
    exact q [] Hs H fe f0 (Aft.refl _ _ _) ok (.nil fun _ => rfl)
end
end Bx

set_option Elab.async false
set_option linter.all false
set_option maxRecDepth 100000
set_option maxHeartbeats 1000000
/-! Expressions that leave the environment as it is; places within it. -/
namespace Bx
open PySem L2
def D.isF : D → Bool
  | .nd _ o _ => !o
  | _ => true
section
variable {G : Gc} {Hs H Hs' H' : Hp}
theorem New.trans {Hs1 H1 : Hp} {g : Fp} (a : New Hs H Hs1 H1 f0) (b : New Hs1 H1 Hs' H' g) : New Hs H Hs' H' g :=
  ⟨a.sh.trans b.sh, fun c hc => by
    have h1 := a.keep c hc
    have h2 := b.keep c (by rw [h1.1]; exact hc)
    exact ⟨h2.1.trans h1.1, h2.2.trans h1.2⟩, fun c h => a.mono c (b.mono c h), b.sm, b.one, fun c hc => ⟨a.mono c (b.own c hc).1, (b.own c hc).2⟩⟩
theorem New.frz {f : Fp} {v : V} {d : D} (n : New Hs H Hs' H' f) (r : Rp G Hs' H' v d f) : ∃ Hs2, New Hs H Hs2 H' f0 ∧ Same Hs' Hs2 ∧ Rp G Hs2 H' v (frz d) f0 := by
  have s : Same Hs' (fun b => if f b ≠ 0 then H' b else Hs' b) := fun b u hb => by
    by_cases z : f b = 0
    · show (if f b ≠ 0 then H' b else Hs' b) = some u
      rw [if_neg (by omega)]; exact hb
    · have := (n.own b z).2
      rw [hb] at this; cases this
  refine ⟨fun b => if f b ≠ 0 then H' b else Hs' b, ⟨n.sh.trans s, fun b hb => ⟨(n.keep b hb).1, ?_⟩, n.mono, fun b u hb => ?_, fun b => Nat.zero_le _, fun b hb => absurd rfl hb⟩, s, r.frz s (fun _ => rfl) fun b hb => by
    show (if f b ≠ 0 then H' b else Hs' b) = H' b
    rw [if_pos hb]⟩
  · have z : f b = 0 := by
      by_cases z : f b = 0
      · exact z
      · exact absurd (n.own b z).1 hb
    show (if f b ≠ 0 then H' b else Hs' b) = Hs b
    rw [if_neg (by omega)]; exact (n.keep b hb).2
  · by_cases z : f b = 0
    · have hb' : (if f b ≠ 0 then H' b else Hs' b) = some u := hb
      rw [if_neg (by omega)] at hb'; exact n.sm b u hb'
    · have hb' : (if f b ≠ 0 then H' b else Hs' b) = some u := hb
      rw [if_pos z] at hb'; exact .inl hb'
theorem Rp.isF {v : V} {d : D} {f : Fp} (r : Rp G Hs H v d f) (h : ∀ b, f b = 0) : d.isF = true := by
  cases r with
  | @own a _ _ _ _ _ h1 w n r e => have := h a; rw [e, if_pos rfl] at this; omega
  | _ => rfl
theorem Rp.isF0 {v : V} {d : D} {f : Fp} (r : Rp G Hs H v d f) (h : d.isF = true) : ∀ b, f b = 0 := by
  cases r with
  | own h1 w n r e => cases h
  | non z => exact z
  | bl z => exact z
  | int z => exact z
  | str z => exact z
  | ty z => exact z
  | sh h r z => exact z
theorem Rp.keepN {v : V} {d : D} {f g : Fp} (r : Rp G Hs H v d f) (n : New Hs H Hs' H' g) : Rp G Hs' H' v d f := r.mono n.sh fun b hb => ⟨(n.keep b (r.live b hb).1).1, (n.keep b (r.live b hb).1).2.trans (r.live b hb).2⟩
/-- one of them, and the others, for later -/
theorem rps_lens : ∀ {vs : List V} {ds : List D} {f : Fp} {i : Nat} {d : D}, Rps G Hs H vs ds f → ds[i]? = some d →
    ∃ (v : V) (g1 g2 : Fp), vs[i]? = some v ∧ Rp G Hs H v d g1 ∧ (∀ b, f b = g1 b + g2 b) ∧
      ∀ {Hs' H' : Hp} {d' : D} {g : Fp}, Same Hs Hs' → (∀ b, g2 b ≠ 0 → H' b = H b ∧ Hs' b = none) → Rp G Hs' H' v d' g → Rps G Hs' H' vs (ds.set i d') (fun b => g b + g2 b)
  | _, _, _, i, _, .nil _, h => by simp at h
  | _, _, _, 0, _, .cons (f := f1) (g := g1) r rs e, h => by
    simp at h; subst h
    exact ⟨_, f1, g1, rfl, r, e, fun s k r' => .cons r' (rs.mono s k) fun b => rfl⟩
  | _, _, _, i + 1, _, .cons (f := f1) (g := g1) r rs e, h => by
    obtain ⟨v, a1, a2, h1, h2, h3, h4⟩ := rps_lens rs (i := i) (by simpa using h)
    refine ⟨v, a1, fun b => f1 b + a2 b, by simpa using h1, h2, fun b => by rw [e b, h3 b]; show _ = a1 b + (f1 b + a2 b); omega, fun {Hs' H' d' g} s k r' => ?_⟩
    exact .cons (r.mono s fun b hb => k b (by show f1 b + a2 b ≠ 0; omega)) (h4 s (fun b hb => k b (by show f1 b + a2 b ≠ 0; omega)) r') fun b => by show g b + (f1 b + a2 b) = f1 b + (g b + a2 b); omega
/-- a place: v stands there, with d; S puts another there -/
structure Loc (G : Gc) (Hs H : Hp) (σ : L2.St) (e : En) (fe : Fp) (v : V) (d : D) (S : D → En) (f : Fp) : Prop where
  rp : Rp G Hs H v d f
  put : ∃ fr : Fp, (∀ b, fe b = f b + fr b) ∧ (∀ d', (S d').ex = e.ex) ∧ (d.isF = false → ∀ {Hs' H' : Hp} {d' : D} {f' : Fp}, Same Hs Hs' → (∀ b, fr b ≠ 0 → H' b = H b ∧ Hs' b = none) → Rp G Hs' H' v d' f' → Sls G Hs' H' σ (S d').sl (fun b => f' b + fr b))
theorem sls_lens : ∀ {σ : L2.St} {e : List (Option D)} {f : Fp} {i : Nat} {d : D}, Sls G Hs H σ e f → e[i]? = some (some d) →
    ∃ (v : V) (f1 f2 : Fp), σ[i]? = some (some v) ∧ Rp G Hs H v d f1 ∧ (∀ b, f b = f1 b + f2 b) ∧
      ∀ {Hs' H' : Hp} {d' : D} {g : Fp}, Same Hs Hs' → (∀ b, f2 b ≠ 0 → H' b = H b ∧ Hs' b = none) → Rp G Hs' H' v d' g → Sls G Hs' H' σ (e.set i (some d')) (fun b => g b + f2 b)
  | _, _, _, i, _, .nil _, h => by simp at h
  | _, _, _, 0, _, .no r, h => by simp at h
  | _, _, _, i + 1, _, .no r, h => by
    obtain ⟨v, f1, f2, h1, h2, h3, h4⟩ := sls_lens r (i := i) (by simpa using h)
    exact ⟨v, f1, f2, by simpa using h1, h2, h3, fun s k r' => .no (h4 s k r')⟩
  | _, _, _, 0, _, .yes (f := f1) (g := g1) r rs q, h => by
    simp at h; subst h
    exact ⟨_, f1, g1, rfl, r, q, fun s k r' => .yes r' (rs.mono s k) fun b => rfl⟩
  | _, _, _, i + 1, _, .yes (f := f1) (g := g1) r rs q, h => by
    obtain ⟨v, a1, a2, h1, h2, h3, h4⟩ := sls_lens rs (i := i) (by simpa using h)
    refine ⟨v, a1, fun b => f1 b + a2 b, by simpa using h1, h2, fun b => by rw [q b, h3 b]; show _ = a1 b + (f1 b + a2 b); omega, fun {Hs' H' d' g} s k r' => ?_⟩
    exact .yes (r.mono s fun b hb => k b (by show f1 b + a2 b ≠ 0; omega)) (h4 s (fun b hb => k b (by show f1 b + a2 b ≠ 0; omega)) r') fun b => by show g b + (f1 b + a2 b) = f1 b + (g b + a2 b); omega
variable {σ : L2.St} {e : En} {fe f : Fp} {v : V} {d : D} {S : D → En}
theorem Loc.keepN {g : Fp} (l : Loc G Hs H σ e fe v d S f) (n : New Hs H Hs' H' g) (hs : Sls G Hs H σ e.sl fe) : Loc G Hs' H' σ e fe v d S f := by
  obtain ⟨fr, h1, h2, h3⟩ := l.put
  refine ⟨l.rp.keepN n, fr, h1, h2, fun hF {Hs2 H2 d' f'} s k r => h3 hF (n.sh.trans s) (fun b hb => ?_) r⟩
  have hk := k b hb
  have hl := (hs.live b (by rw [h1 b]; omega)).1
  exact ⟨hk.1.trans (n.keep b hl).1, hk.2⟩
/-- a child's place -/
theorem Loc.child {k : Kd} {o : Bool} {xs : List D} {j : Nat} {x : D} (sm : Sm Hs H) (l : Loc G Hs H σ e fe v (.nd k o xs) S f) (h : xs[j]? = some x) :
    ∃ a vs u f1, v = .ref a ∧ AtR G Hs H a k vs o ∧ vs.length = xs.length ∧ vs[j]? = some u ∧ Loc G Hs H σ e fe u x (fun x' => S (.nd k o (xs.set j x'))) f1 := by
  obtain ⟨rp, fr, h1, h2, h3⟩ := l
  cases rp with
  | @sh a _ vs _ _ at_ rs z =>
    obtain ⟨u, g1, g2, hu, ru, eg, put⟩ := rps_lens rs h
    have zg : ∀ b, g1 b = 0 := fun b => by have := eg b; have := z b; omega
    refine ⟨a, vs, u, g1, rfl, .sh sm at_, rs.len, hu, ⟨?_, fr, fun b => by rw [h1 b, zg b, z b], fun d' => h2 _, fun hF => ?_⟩⟩
    · exact (ru.mono (H' := H) (Same.refl _) fun b hb => absurd (zg b) hb)
    · rw [ru.isF zg] at hF; cases hF
  | @own a _ vs _ g _ at_ w n rs e1 =>
    obtain ⟨u, g1, g2, hu, ru, eg, put⟩ := rps_lens rs h
    refine ⟨a, vs, u, g1, rfl, .inl at_, rs.len, hu, ⟨ru, fun b => g2 b + (if b = a then 1 else 0) + fr b, fun b => by rw [h1 b, e1 b, eg b]; show _ = g1 b + (g2 b + (if b = a then 1 else 0) + fr b); omega, fun d' => h2 _, fun hF {Hs' H' d' f'} s kp r => ?_⟩⟩
    have ka := kp a (by show g2 a + (if a = a then 1 else 0) + fr a ≠ 0; rw [if_pos rfl]; omega)
    have rn : Rp G Hs' H' (.ref a) (.nd k true (xs.set j d')) (fun b => (f' b + g2 b) + if b = a then 1 else 0) := .own (at_.eq ka.1) w ka.2 (put s (fun b hb => kp b (by show g2 b + (if b = a then 1 else 0) + fr b ≠ 0; omega)) r) fun b => rfl
    exact (h3 rfl s (fun b hb => kp b (by show g2 b + (if b = a then 1 else 0) + fr b ≠ 0; omega)) rn).fp fun b => by show f' b + (g2 b + (if b = a then 1 else 0) + fr b) = f' b + g2 b + (if b = a then 1 else 0) + fr b; omega
end
/-! ### judgements -/
abbrev FQ := En → Option D
abbrev FL := En → Option (D × (D → En))
def canQ (C : Cc) (F : FQ) : TE := fun σ H Q => ∃ e Hs fe P d, Ok C Hs H σ e fe f0 P ∧ F e = some d ∧ ∀ v Hs' H' fv, New Hs H Hs' H' fv → Rp C.toGc Hs' H' v d fv → Q v H'
def canL (C : Cc) (F : FL) : TE := fun σ H Q => ∃ e Hs fe P d S, Ok C Hs H σ e fe f0 P ∧ F e = some (d, S) ∧ ∀ v f Hs' H', New Hs H Hs' H' f0 → Loc C.toGc Hs' H' σ e fe v d S f → Q v H'
def canQT (C : Cc) (F : En → Option Bool) : TT := fun σ H Q => ∃ e Hs fe P k, Ok C Hs H σ e fe f0 P ∧ F e = some k ∧ ∀ Hs' H', New Hs H Hs' H' f0 → Q k H'
def BQ (X : Cx) (C : Cc) (e : Expr) (F : FQ) : Prop := PE X e (canQ C F)
def BL (X : Cx) (C : Cc) (e : Expr) (F : FL) : Prop := PE X e (canL C F)
def BQT (X : Cx) (C : Cc) (e : Expr) (F : En → Option Bool) : Prop := PT X e (canQT C F)
def qC (d : D) : FQ := fun _ => some d
def qN (i : Nat) : FQ := fun e => match e.sl[i]? with
  | some (some d) => if d.isF then some d else none
  | _ => none
def qL (p : FL) : FQ := fun e => (p e).bind fun (d, _) => if d.isF then some d else none
def qBin (g : D → D → Option D) (a b : FQ) : FQ := fun e => (a e).bind fun x => (b e).bind fun y => g (frz x) (frz y)
def qIf (c : En → Option Bool) (a b : FQ) : FQ := fun e => (c e).bind fun k => if k then a e else b e
def qTru (a : FQ) : En → Option Bool := fun e => (a e).bind truD
def qCall1 (g : List D → Option D) (p : FL) : FQ := fun e => (p e).bind fun (d, _) => g [d]
def lN (i : Nat) : FL := fun e => match e.sl[i]? with
  | some (some d) => some (d, fun d' => e.put i d')
  | _ => none
def lAt (cs : List Str) (p : FL) (f : Str) : FL := fun e => (p e).bind fun (d, S) => match d with
  | .nd (.ins c fn) o xs => if cs.contains c then (kpos fn f).bind fun j => (xs[j]?).map fun x => (x, fun x' => S (.nd (.ins c fn) o (xs.set j x'))) else none
  | _ => none
def lIx (p : FL) (b : FQ) : FL := fun e => (p e).bind fun (d, S) => (b e).bind fun y => match d with
  | .nd k o xs => (cpos (.nd k o xs) (frz y)).bind fun j => (xs[j]?).map fun x => (x, fun x' => S (.nd k o (xs.set j x')))
  | _ => none
def eQ (q : FQ) : FE := fun e => .opt (q e) e
section
variable {X : Cx} {C : Cc} {W : WX} {pos p2 : Pos} {a b c o : Expr} {Fa Fb Fc : FQ} {Fl : FL} {Tc : En → Option Bool}
theorem Ok.newN {Hs H Hs' H' : Hp} {σ : L2.St} {e : En} {fe fv : Fp} {P : Addr → Prop} (ok : Ok C Hs H σ e fe f0 P) (n : New Hs H Hs' H' fv) : Ok C Hs' H' σ e fe fv P := (ok.new n fun _ h => absurd rfl h).fps (fun _ => rfl) fun b => (Nat.zero_add _).symm
theorem be_q (h : BQ X C a Fa) : BE X C W a (eQ Fa) := h.imp fun σ H Q ⟨e, Hs, fe, P, ok, q⟩ => by
  unfold eQ at q
  cases hd : Fa e with
  | none => rw [hd] at q; exact q.elim
  | some d =>
    rw [hd] at q
    exact ⟨e, Hs, fe, P, d, ok, hd, fun v Hs' H' fv n r => q v Hs' H' fe fv (n.aft ok) (ok.newN n) r⟩
theorem bq_c {d : D} {v : V} (h : PE X a (tC v)) (r : ∀ Hs H, Rp C.toGc Hs H v d f0) : BQ X C a (qC d) := h.imp fun σ H Q ⟨e, Hs, fe, P, d', ok, hd, q⟩ => by
  cases hd; exact q v Hs H f0 (New.refl ok.sm) (r Hs H)
theorem bq_int {i j} : BQ X C (.Constant (.int i) j pos) (qC (.int i)) := bq_c pe_int fun _ _ => .int fun _ => rfl
theorem bq_bl {k j} : BQ X C (.Constant (.bool k) j pos) (qC (.bl k)) := bq_c pe_bl fun _ _ => .bl fun _ => rfl
theorem bq_non {j} : BQ X C (.Constant .none j pos) (qC .non) := bq_c pe_non fun _ _ => .non fun _ => rfl
theorem bq_str {x j} : BQ X C (.Constant (.str x) j pos) (qC (.str x)) := bq_c pe_str fun _ _ => .str fun _ => rfl
theorem bq_gint {x : Str} {i : Int} (hg : Gl X x) (hd : (x == ("__debug__" : Str)) = false) (hm : ∃ t, X.mg x = some (.int i t)) : BQ X C (.Name x pos) (qC (.int i)) := by
  obtain ⟨t, hm⟩ := hm
  exact bq_c (pe_glob (v := .int i) hg hm ⟨t, rfl⟩ hd) fun _ _ => .int fun _ => rfl
theorem bl_name {i : Nat} (h : PE X a (tVar i)) : BL X C a (lN i) := h.imp fun σ H Q ⟨e, Hs, fe, P, d, S, ok, hd, q⟩ => by
  unfold lN at hd
  split at hd
  · rename_i d' h1
    cases hd
    obtain ⟨v, f1, f2, h2, h3, h4, h5⟩ := sls_lens ok.sl h1
    exact ⟨v, h2, q v f1 Hs H (New.refl ok.sm) ⟨h3, f2, h4, fun _ => rfl, fun _ => h5⟩⟩
  · cases hd
theorem bq_l (h : BL X C a Fl) : BQ X C a (qL Fl) := h.imp fun σ H Q ⟨e, Hs, fe, P, d, ok, hd, q⟩ => by
  unfold qL at hd
  obtain ⟨⟨d', S⟩, h1, h2⟩ := Option.bind_eq_some_iff.mp hd
  dsimp only at h2
  split at h2
  · rename_i hF
    cases h2
    exact ⟨e, Hs, fe, P, d, S, ok, h1, fun v f Hs' H' n l => q v Hs' H' f0 n (l.rp.fp fun b => (l.rp.isF0 hF b).symm)⟩
  · cases h2
theorem bq_name {i : Nat} (h : PE X a (tVar i)) : BQ X C a (qL (lN i)) := bq_l (bl_name h)
/-- a second one, behind new things -/
theorem canQ.on {e : En} {Hs H Hs' H' : Hp} {σ : L2.St} {fe : Bx.Fp} {P : Addr → Prop} {d : D} {Q : VK} (ok : Ok C Hs H σ e fe f0 P) (n : New Hs H Hs' H' f0) (h : Fa e = some d) (q : ∀ v Hs2 H2 fv, New Hs' H' Hs2 H2 fv → Rp C.toGc Hs2 H2 v d fv → Q v H2) : canQ C Fa σ H' Q :=
  ⟨e, Hs', fe, P, d, ok.newN n, h, q⟩
theorem bq_op {r : R2} {g : D → D → Option D} {x : Expr} (hp : ∀ ta tb, PE X a ta → PE X b tb → PE X x (tOp r ta tb)) (hs : OpS C.toGc r g) (ha : BQ X C a Fa) (hb : BQ X C b Fb) : BQ X C x (qBin g Fa Fb) :=
  (hp _ _ ha hb).imp fun σ H Q ⟨e, Hs, fe, P, d, ok, hd, q⟩ => by
    unfold qBin at hd
    obtain ⟨x, h1, h2⟩ := Option.bind_eq_some_iff.mp hd
    obtain ⟨y, h3, h4⟩ := Option.bind_eq_some_iff.mp h2
    refine ⟨e, Hs, fe, P, x, ok, h1, fun v Hs1 H1 f1 n1 r1 => ?_⟩
    obtain ⟨Hs2, n2, s2, r2⟩ := n1.frz r1
    refine canQ.on ok n2 h3 fun w Hs3 H3 f3 n3 r3 => ?_
    obtain ⟨Hs4, n4, s4, r4⟩ := n3.frz r3
    exact hs n4.sm (r2.keepN n4) r4 h4 fun u Hs5 H5 f5 n5 r5 => q u Hs5 H5 f5 (n2.trans (n4.trans n5)) r5
theorem bq_bin {op : Operator} {r : R2} {g : D → D → Option D} (ho : OpR X (binaryOp op) r) (hs : OpS C.toGc r g) (ha : BQ X C a Fa) (hb : BQ X C b Fb) : BQ X C (.BinOp a op b pos) (qBin g Fa Fb) := bq_op (fun _ _ h1 h2 => pe_op ho h1 h2) hs ha hb
theorem bq_cmp {op : CmpOp} {r : R2} {g : D → D → Option D} (ho : OpR X (compareOp op) r) (hs : OpS C.toGc r g) (hm : behindInMarks op b = false) (ha : BQ X C a Fa) (hb : BQ X C b Fb) : BQ X C (.Compare a [op] [b] pos) (qBin g Fa Fb) := bq_op (fun _ _ h1 h2 => pe_cmpR ho h1 h2 hm) hs ha hb
theorem bqt_tru (hk : X.K = C.K) (h : BQ X C a Fa) (he : ∀ whole, isTrue a X.env whole = (do let v ← whole; standAt a.pos; holding [v] (truthy v))) : BQT X C a (qTru Fa) :=
  (pt_truth h he).imp fun σ H Q ⟨e, Hs, fe, P, k, ok, hd, q⟩ => by
    unfold qTru at hd
    obtain ⟨d, h1, h2⟩ := Option.bind_eq_some_iff.mp hd
    refine ⟨e, Hs, fe, P, d, ok, h1, fun v Hs1 H1 f1 n1 r1 => ?_⟩
    obtain ⟨Hs2, n2, _, _⟩ := n1.frz r1
    exact ⟨k, by rw [hk]; exact truS (G := C.toGc) n1.sm r1 h2, q Hs2 H1 n2⟩
theorem bq_if (hc : BQT X C c Tc) (ha : BQ X C a Fa) (hb : BQ X C b Fb) : BQ X C (.IfExp c a b pos) (qIf Tc Fa Fb) :=
  (pe_ifExp hc ha hb).imp fun σ H Q ⟨e, Hs, fe, P, d, ok, hd, q⟩ => by
    unfold qIf at hd
    obtain ⟨k, h1, h2⟩ := Option.bind_eq_some_iff.mp hd
    refine ⟨e, Hs, fe, P, k, ok, h1, fun Hs1 H1 n1 => ?_⟩
    cases k with
    | true => rw [if_pos rfl] at h2 ⊢; exact canQ.on ok n1 h2 fun v Hs2 H2 fv n r => q v Hs2 H2 fv (n1.trans n) r
    | false => rw [if_neg (by simp)] at h2 ⊢; exact canQ.on ok n1 h2 fun v Hs2 H2 fv n r => q v Hs2 H2 fv (n1.trans n) r
theorem bl_at {cs : List Str} {f : Str} (hk : X.K = C.K) (hC : Has C.K C.ca cs f) (ha : BL X C a Fl) (hb : attributeBase a f X.env (eval a X.env) = eval a X.env) : BL X C (.Attribute a f pos) (lAt cs Fl f) :=
  (pe_fld ha hb).imp fun σ H Q ⟨e, Hs, fe, P, d, S, ok, hd, q⟩ => by
    unfold lAt at hd
    obtain ⟨⟨d0, S0⟩, h1, h2⟩ := Option.bind_eq_some_iff.mp hd
    dsimp only at h2
    refine ⟨e, Hs, fe, P, d0, S0, ok, h1, fun v f1 Hs1 H1 n1 l1 => ?_⟩
    split at h2
    · rename_i c fn o xs
      split at h2
      · rename_i hc
        obtain ⟨j, hj, h3⟩ := Option.bind_eq_some_iff.mp h2
        obtain ⟨x, hx, h4⟩ := Option.map_eq_some_iff.mp h3
        cases h4
        obtain ⟨p, vs, u, g1, rfl, at_, hl, hu, l2⟩ := l1.child n1.sm hx
        obtain ⟨hfl, dx, hH⟩ := at_.ins n1.sm
        obtain ⟨c1, c2⟩ := hC c hc
        exact ⟨p, _, dx, _, u, rfl, hH, by rw [hk]; exact c1, by rw [hk]; exact c2, by rw [lookup_kpos hfl, hj]; exact hu, q u g1 Hs1 H1 n1 l2⟩
      · cases h2
    · cases h2
theorem bl_ix (hu : X.A.units + 1 < cLine) (hk : X.K = C.K) (ha : BL X C a Fl) (hb : BQ X C b Fb) (hs : PlainIx b) : BL X C (.Subscript a b pos) (lIx Fl Fb) :=
  (pe_ix (ix_A hu) ha hb hs).imp fun σ H Q ⟨e, Hs, fe, P, d, S, ok, hd, q⟩ => by
    unfold lIx at hd
    obtain ⟨⟨d0, S0⟩, h1, h2⟩ := Option.bind_eq_some_iff.mp hd
    obtain ⟨y, h3, h4⟩ := Option.bind_eq_some_iff.mp h2
    refine ⟨e, Hs, fe, P, d0, S0, ok, h1, fun v f1 Hs1 H1 n1 l1 => ?_⟩
    refine canQ.on ok n1 h3 fun w Hs3 H3 f3 n3 r3 => ?_
    obtain ⟨Hs4, n4, s4, r4⟩ := n3.frz r3
    split at h4
    · rename_i k o xs
      obtain ⟨j, hj, h5⟩ := Option.bind_eq_some_iff.mp h4
      obtain ⟨x, hx, h6⟩ := Option.map_eq_some_iff.mp h5
      cases h6
      obtain ⟨p, vs, u, g1, rfl, at_, hl, hu', l2⟩ := (l1.keepN n4 (ok.newN n1).sl).child n4.sm hx
      rw [hk]
      exact ixCore (G := C.toGc) n4.sm at_ hl r4 hj u Q hu' (q u g1 Hs4 H3 (n1.trans n4) l2)
    · cases h4
end
end Bx

set_option Elab.async false
set_option linter.all false
set_option maxRecDepth 100000
set_option maxHeartbeats 1000000
/-! Places: looked at, cut, grown. -/
namespace Bx
open PySem L2
def flatZ : D → Bool
  | .nd k o xs => o && (k.ow && xs.all D.sc)
  | _ => true
section
variable {G : Gc} {Hs H Hs' H' : Hp}
theorem Rp.scT {v : V} {d : D} {f : Fp} {Hs2 H2 : Hp} (r : Rp G Hs H v d f) (h : d.sc = true) : Rp G Hs2 H2 v d f := by
  cases r with
  | non z => exact .non z
  | bl z => exact .bl z
  | int z => exact .int z
  | str z => exact .str z
  | ty z => exact .ty z
  | _ => cases h
theorem Rps.scT {Hs2 H2 : Hp} : ∀ {vs : List V} {ds : List D} {f : Fp}, Rps G Hs H vs ds f → ds.all D.sc = true → Rps G Hs2 H2 vs ds f
  | _, _, _, .nil z, _ => .nil z
  | _, _, _, .cons r rs e, h => by
    rw [List.all_cons, Bool.and_eq_true] at h
    exact .cons (r.scT h.1) (Rps.scT rs h.2) e
theorem Rp.flatT {v : V} {d : D} {f : Fp} {Hs2 : Hp} (r : Rp G Hs H v d f) (h : flatZ d = true) (k : ∀ b, f b ≠ 0 → Hs2 b = none) : Rp G Hs2 H v d f := by
  cases r with
  | non z => exact .non z
  | bl z => exact .bl z
  | int z => exact .int z
  | str z => exact .str z
  | ty z => exact .ty z
  | sh h1 r z => cases h
  | @own a _ _ _ _ _ h1 w n r e =>
    have h : (true && (Kd.ow _ && List.all _ D.sc)) = true := h
    rw [Bool.true_and, Bool.and_eq_true] at h
    exact .own h1 w (k a (by rw [e a, if_pos rfl]; omega)) (r.scT h.2) e
/-- what stands is frozen for a while -/
theorem tempF {v : V} {d z : D} {f : Fp} {Q : VK} {T : Prop} (s : Sm Hs H) (r : Rp G Hs H v d f) (hz : flatZ z = true)
    (hT : ∀ Hs2, Sm Hs2 H → Same Hs Hs2 → Rp G Hs2 H v (frz d) f0 → (∀ v' Hs' H' fv, New Hs2 H Hs' H' fv → Rp G Hs' H' v' z fv → Q v' H') → T) (q : ∀ v' Hs' H' fv, New Hs H Hs' H' fv → Rp G Hs' H' v' z fv → Q v' H') : T := by
  have lv := r.live
  have s2 : Same Hs (fun b => if f b ≠ 0 then H b else Hs b) := fun b u hb => by
    by_cases z : f b = 0
    · show (if f b ≠ 0 then H b else Hs b) = some u
      rw [if_neg (by omega)]; exact hb
    · have := (lv b z).2
      rw [hb] at this; cases this
  refine hT (fun b => if f b ≠ 0 then H b else Hs b) (fun b u hb => ?_) s2 (r.frz s2 (fun _ => rfl) fun b hb => if_pos hb) fun v' Hs' H' fv n r' => ?_
  · by_cases z : f b = 0
    · have hb' : (if f b ≠ 0 then H b else Hs b) = some u := hb
      rw [if_neg (by omega)] at hb'; exact s b u hb'
    · have hb' : (if f b ≠ 0 then H b else Hs b) = some u := hb
      rw [if_pos z] at hb'; exact .inl hb'
  · have key : ∀ b, f b = 0 → (fun b => if f b ≠ 0 then H b else Hs b) b = Hs b := fun b z => if_neg (by omega)
    refine q v' (fun b => if f b ≠ 0 then Hs b else Hs' b) H' fv ⟨fun b u hb => ?_, fun b hb => ⟨(n.keep b hb).1, ?_⟩, n.mono, fun b u hb => ?_, n.one, fun b hb => ⟨(n.own b hb).1, ?_⟩⟩ (r'.flatT hz fun b hb => ?_)
    · by_cases z : f b = 0
      · show (if f b ≠ 0 then Hs b else Hs' b) = some u
        rw [if_neg (by omega)]; exact n.sh b u ((key b z).trans hb)
      · have := (lv b z).2
        rw [hb] at this; cases this
    · show (if f b ≠ 0 then Hs b else Hs' b) = Hs b
      by_cases z : f b = 0
      · rw [if_neg (by omega)]; exact (n.keep b hb).2.trans (key b z)
      · rw [if_pos z]
    · have hb' : (if f b ≠ 0 then Hs b else Hs' b) = some u := hb
      by_cases z : f b = 0
      · rw [if_neg (by omega)] at hb'; exact n.sm b u hb'
      · rw [if_pos z, (lv b z).2] at hb'; cases hb'
    · show (if f b ≠ 0 then Hs b else Hs' b) = none
      by_cases z : f b = 0
      · rw [if_neg (by omega)]; exact (n.own b hb).2
      · rw [if_pos z]; exact (lv b z).2
    · show (if f b ≠ 0 then Hs b else Hs' b) = none
      by_cases z : f b = 0
      · rw [if_neg (by omega)]; exact (n.own b hb).2
      · rw [if_pos z]; exact (lv b z).2
end
section
variable {C : Cc} {Hs H : Hp} {σ : L2.St} {e : En} {fe fx : Fp} {P : Addr → Prop}
/-- a node at a place is written anew, a value at hand may go into it -/
theorem Ok.nodeL {S : D → En} {v : V} {k : Kd} {xs : List D} {f fd : Fp} (ok : Ok C Hs H σ e fe fd P) (l : Loc C.toGc Hs H σ e fe v (.nd k true xs) S f) :
    ∃ (a : Addr) (vs : List V) (g : Fp), v = .ref a ∧ At C.toGc H a k vs ∧ Rps C.toGc Hs H vs xs g ∧ vs.length = xs.length ∧ (∀ o, Rps C.toGc Hs (upd H a o) vs xs g) ∧
      (∀ o u d, Rp C.toGc Hs H u d fd → Rp C.toGc Hs (upd H a o) u d fd) ∧
      ∀ (o : HO) (k' : Kd) (vs' : List V) (xs' : List D) (fn : Fp), At C.toGc (upd H a o) a k' vs' → k'.ow = true → (∀ b, fn b ≤ g b + fd b) → Rps C.toGc Hs (upd H a o) vs' xs' fn →
        ∃ fe', Aft Hs H Hs (upd H a o) P ∧ Ok C Hs (upd H a o) σ (S (.nd k' true xs')) fe' f0 P := by
  obtain ⟨rp, fr, h1, h2, h3⟩ := l
  cases rp with
  | @own a _ vs _ g _ at_ hw nHs rs eg =>
    have one := ok.wf.one
    have up : ∀ (o : HO) b, b ≠ a → (upd H a o) b = H b := fun o b hb => upd_ne hb
    have fa : f a = g a + 1 := by rw [eg a, if_pos rfl]
    have g_a : g a = 0 := by have := one a; have := h1 a; omega
    have fd_a : fd a = 0 := by have := one a; have := h1 a; omega
    have fr_a : fr a = 0 := by have := one a; have := h1 a; omega
    have Pa : ∀ b, P b → b ≠ a := fun b hb z => by have := ok.wf.apart b hb; have := h1 b; rw [z] at *; omega
    refine ⟨a, vs, g, rfl, at_, rs, rs.len, fun o => rs.mono (Same.refl _) fun b hb => ⟨up o b fun z => hb (by rw [z]; exact g_a), (rs.live b hb).2⟩,
      fun o u d rd => rd.mono (Same.refl _) fun b hb => ⟨up o b fun z => hb (by rw [z]; exact fd_a), (rd.live b hb).2⟩, ?_⟩
    intro o k' vs' xs' fn at' w' le rs'
    have mono : ∀ b, (upd H a o) b = none → H b = none := fun b hb => by
      by_cases z : b = a
      · rw [z, upd_same] at hb; cases hb
      · rw [up o b z] at hb; exact hb
    have s2 := h3 rfl (Hs' := Hs) (H' := upd H a o) (d' := .nd k' true xs') (f' := fun b => fn b + if b = a then 1 else 0) (Same.refl _) (fun b hb => ⟨up o b fun z => hb (by rw [z]; exact fr_a), ok.wf.own b (by have := h1 b; omega)⟩) (.own at' w' nHs rs' fun b => rfl)
    refine ⟨fun b => (fn b + if b = a then 1 else 0) + fr b, ⟨Same.refl _, fun b hb => ⟨up o b (Pa b hb), rfl⟩, mono⟩, ⟨⟨fun b u hb => ?_, fun b => ?_, fun b hb => ?_, fun b hb => ?_, fun b hb z => ok.wf.live b hb (mono b z)⟩, s2, ok.pn, by rw [h2]; exact ok.ex.mono (Same.refl _)⟩⟩
    · rw [up o b fun z => by rw [z, nHs] at hb; cases hb]; exact ok.wf.sm b u hb
    · have := one b; have := h1 b; have := eg b; have := le b
      show fn b + (if b = a then 1 else 0) + fr b + 0 ≤ 1
      omega
    · have hb' : fn b + (if b = a then 1 else 0) + fr b + 0 ≠ 0 := hb
      exact ok.wf.own b (by have := h1 b; have := eg b; have := le b; omega)
    · have := ok.wf.apart b hb; have := h1 b; have := eg b; have := le b
      show fn b + (if b = a then 1 else 0) + fr b + 0 = 0
      omega
end
def qP (a : Option FQ) : En → Option (Option Int) := fun e => match a with
  | none => some none
  | some a => match a e with
    | some (.int i) => some (some i)
    | _ => none
def canQP (C : Cc) (F : En → Option (Option Int)) : TO := fun σ H Q => ∃ e Hs fe P k, Ok C Hs H σ e fe f0 P ∧ F e = some k ∧ ∀ Hs' H', New Hs H Hs' H' f0 → Q k H'
def BQP (X : Cx) (C : Cc) (o : Option Expr) (F : En → Option (Option Int)) : Prop := PO X o (canQP C F)
/-- a slice of what stands at a place: flat -/
def qSl (p : FL) (lo hi : Option FQ) : FQ := fun e => (p e).bind fun (d, _) => (qP lo e).bind fun l => (qP hi e).bind fun h => (sliceD (frz d) l h).bind fun z => if flatZ z then some z else none
/-- place.append(x) -/
def eAppL (p : FL) (q : FQ) : FE := fun e => match p e with
  | some (.nd .lst true xs, S) => (match q e with
    | some d => if xs.length < lim then .ok .non (S (.nd .lst true (xs ++ [d]))) else .bad
    | none => .bad)
  | _ => .bad
section
variable {X : Cx} {C : Cc} {W : WX} {pos p2 apos : Pos} {a b c o : Expr} {Fa Fb Fc : FQ} {Fl : FL} {lo hi : Option Expr} {Ql Qh : Option FQ}
theorem bqp_none : BQP X C none (qP none) := po_none.imp fun σ H Q ⟨e, Hs, fe, P, k, ok, h, q⟩ => by
  cases h; exact q Hs H (New.refl ok.sm)
theorem bqp_some (ha : BQ X C a Fa) : BQP X C (some a) (qP (some Fa)) := (po_some ha).imp fun σ H Q ⟨e, Hs, fe, P, k, ok, h, q⟩ => by
  unfold qP at h
  dsimp only at h
  split at h
  · rename_i i h1
    cases h
    exact ⟨e, Hs, fe, P, _, ok, h1, fun v Hs1 H1 f1 n1 r1 => by
      obtain ⟨Hs2, n2, _, _⟩ := n1.frz r1
      exact ⟨i, r1.toI, q Hs2 H1 n2⟩⟩
  · cases h
theorem canQP.on {F : En → Option (Option Int)} {e : En} {Hs H Hs' H' : Hp} {σ : L2.St} {fe : Fp} {P : Addr → Prop} {k : Option Int} {Q : Option Int → Hp → Prop} (ok : Ok C Hs H σ e fe f0 P) (n : New Hs H Hs' H' f0) (h : F e = some k) (q : ∀ Hs2 H2, New Hs' H' Hs2 H2 f0 → Q k H2) : canQP C F σ H' Q :=
  ⟨e, Hs', fe, P, k, ok.newN n, h, q⟩
theorem bq_sl (hk : X.K = C.K) (ha : BL X C a Fl) (hl : BQP X C lo (qP Ql)) (hh : BQP X C hi (qP Qh)) : BQ X C (.Subscript a (.Slice lo hi none p2) pos) (qSl Fl Ql Qh) :=
  (pe_slice sl_A ha hl hh).imp fun σ H Q ⟨e, Hs, fe, P, d, ok, hd, q⟩ => by
    unfold qSl at hd
    obtain ⟨⟨d0, S0⟩, h1, h2⟩ := Option.bind_eq_some_iff.mp hd
    obtain ⟨l, h3, h4⟩ := Option.bind_eq_some_iff.mp h2
    obtain ⟨h, h5, h6⟩ := Option.bind_eq_some_iff.mp h4
    obtain ⟨z, h7, h8⟩ := Option.bind_eq_some_iff.mp h6
    split at h8
    · rename_i hz
      cases h8
      refine ⟨e, Hs, fe, P, d0, S0, ok, h1, fun v f1 Hs1 H1 n1 l1 => ?_⟩
      refine canQP.on ok n1 h3 fun Hs2 H2 n2 => ?_
      refine canQP.on ok (n1.trans n2) h5 fun Hs3 H3 n3 => ?_
      have r3 := (l1.rp.keepN n2).keepN n3
      show rSlA X.K _ _ _ _ _
      rw [hk]
      exact tempF n3.sm r3 hz (fun Hs4 s4 _ r4 q4 => sliceS (G := C.toGc) s4 r4 h7 q4) fun v' Hs5 H5 fv n5 r5 => q v' Hs5 H5 fv (n1.trans (n2.trans (n3.trans n5))) r5
    · cases h8
/-- a built-in that looks at a place -/
theorem bq_call1 {x : Expr} {r : List V → Hp → VK → Prop} {g : List D → Option D} (hp : ∀ t, PA X [a] t → PE X x (tCB r t)) (hg : CallB C.toGc r g) (ha : BL X C a Fl) (hst : starEach [a] X.env = (false, eval a X.env) :: starEach [] X.env) : BQ X C x (qCall1 g Fl) :=
  (hp _ (pa_cons ha pa_nil hst)).imp fun σ H Q ⟨e, Hs, fe, P, d, ok, hd, q⟩ => by
    unfold qCall1 at hd
    obtain ⟨⟨d0, S0⟩, h1, h2⟩ := Option.bind_eq_some_iff.mp hd
    refine ⟨e, Hs, fe, P, d0, S0, ok, h1, fun v f1 Hs1 H1 n1 l1 => ?_⟩
    exact hg n1.sm (.cons l1.rp .nil) h2 fun v rz => q v Hs1 H1 f0 n1 rz
theorem be_appL {x : Expr} (hp : ∀ tp t, PE X o tp → PA X [a] t → PE X x (tBM X.K "list" rAppend tp t)) (hl : BL X C o Fl) (ha : BQ X C a Fa) (hst : starEach [a] X.env = (false, eval a X.env) :: starEach [] X.env) : BE X C W x (eAppL Fl Fa) :=
  (hp _ _ hl (pa_cons ha pa_nil hst)).imp fun σ H Q ⟨e, Hs, fe, P, ok, q⟩ => by
    unfold eAppL at q
    split at q
    · rename_i xs S h1
      split at q
      · rename_i d h2
        split at q
        · rename_i hlim
          refine ⟨e, Hs, fe, P, _, S, ok, h1, fun v f1 Hs1 H1 n1 l1 => ?_⟩
          obtain ⟨p, vs, g, rfl, hH, _⟩ := l1.rp.lst n1.sm
          refine ⟨.inl ⟨rfl, vs, SqL.of hH⟩, ?_⟩
          refine canQ.on ok n1 h2 fun u Hs3 H3 f3 n3 r3 => ?_
          have l3 := l1.keepN n3 (ok.newN n1).sl
          obtain ⟨p', vs', g', e1, at_, rs, hl', rsu, rdu, fin⟩ := (ok.newN (n1.trans n3)).nodeL l3
          cases e1
          refine ⟨p, vs', u, rfl, rfl, at_, by rw [hl']; exact lim_lt (Nat.le_of_lt hlim), ?_⟩
          obtain ⟨fe', af, ok2⟩ := fin (.lst (vs' ++ [u])) .lst (vs' ++ [u]) (xs ++ [d]) (fun b => g' b + f3 b) upd_same rfl (fun b => Nat.le_refl _) ((rsu _).app (.cons (rdu _ _ _ r3) (.nil (f := f0) fun _ => rfl) (h := f3) fun b => rfl) fun b => rfl)
          exact q .non Hs3 _ fe' f0 (((n1.trans n3).aft ok).trans af) (ok2.fps (fun _ => rfl) fun _ => rfl) r_non
        · exact q.elim
      · exact q.elim
    · exact q.elim
theorem pcAppL (h1 : attributeBase o "append" X.env (eval o X.env) = eval o X.env) (h2 : ((backTo pos (starEach [a] X.env)).all (!·.1) && (backToKw pos (keywordEach [] X.env)).all (·.1.isSome) && decide (([a].length + ([] : List Keyword).length + if ([] : List Keyword).isEmpty then 0 else 1) < 30)) = true) (h3 : (apos.endLine == pos.line) = true)
    (h4 : starEach [a] X.env = (false, eval a X.env) :: starEach [] X.env) (h5 : (backTo pos (starEach [] X.env)).any (·.1) = false) : ∀ tp t, PE X o tp → PA X [a] t → PE X (.Call (.Attribute o "append" apos) [a] [] pos) (tBM X.K "list" rAppend tp t) :=
  fun _ _ ho ha => pe_bm PySem.F.plainAttrs_list PySem.F.slot_list_append PySem.F.type_list_append mt_append ho ha h1 h2 h3 h4 h5
theorem be_gint {x : Str} {i : Int} (hg : Gl X x) (hd : (x == ("__debug__" : Str)) = false) (hm : ∃ t, X.mg x = some (.int i t)) : BE X C W (.Name x pos) (eC (.int i)) := by
  obtain ⟨t, hm⟩ := hm
  exact be_c (pe_glob (v := .int i) hg hm ⟨t, rfl⟩ hd) fun _ _ => .int fun _ => rfl
/-! ### bits -/
def andD : D → D → Option D
  | .int i, .int 255 => some (.int (i % 256))
  | _, _ => none
theorem andS {G : Gc} : OpS G (fun x y H Q => ∃ (i : Int) (k : Nat), x = V.int i ∧ y = V.int (2 ^ k - 1) ∧ Q (V.int (i % 2 ^ k)) H) andD := by
  intro Hs H v1 v2 d1 d2 z Q s r1 r2 hz q
  unfold andD at hz
  split at hz
  · cases hz
    rw [r1.toI, r2.toI]
    exact ⟨_, 8, rfl, rfl, res0 s q (r_int _)⟩
  · cases hz
end
end Bx

set_option Elab.async false
set_option linter.all false
set_option maxRecDepth 100000
set_option maxHeartbeats 1000000
/-! sorted of ints. -/
namespace Bx
open PySem L2
def leI (a b : Int) : Bool := decide (a ≤ b)
def sortI (ns : List Int) : List Int := ns.mergeSort leI
theorem sortI_perm (ns : List Int) : (sortI ns).Perm ns := List.mergeSort_perm _ _
theorem sortI_le (ns : List Int) : (sortI ns).Pairwise (· ≤ ·) := by
  have h := List.pairwise_mergeSort (le := leI) (fun a b c h1 h2 => by unfold leI at *; simp only [decide_eq_true_eq] at *; omega) (fun a b => by unfold leI; simp only [Bool.or_eq_true, decide_eq_true_eq]; omega) ns
  exact h.imp fun h => by unfold leI at h; simpa using h
theorem sortI_uniq {ns ns' : List Int} (h : ns'.Perm ns) (s : ns'.Pairwise (· ≤ ·)) : ns' = sortI ns :=
  List.Perm.eq_of_pairwise (le := (· ≤ ·)) (fun a b _ _ h1 h2 => Int.le_antisymm h1 h2) s (sortI_le ns) (h.trans (sortI_perm ns).symm)
def sortedD : List D → Option D
  | [d] => match d.seq with
    | some (true, xs) => (intsD xs).map fun ns => .nd .lst true ((sortI ns).map D.int)
    | _ => none
  | _ => none
section
variable {G : Gc}
theorem sortedS : CallS G (rSortedI G.K) sortedD := by
  intro Hs H vs ds z Q s r0 hz q
  unfold sortedD at hz
  split at hz
  · split at hz
    · rename_i xs h
      obtain ⟨ns, h2, rfl⟩ := Option.map_eq_some_iff.mp hz
      obtain ⟨v, rfl, r⟩ := r0.one
      obtain ⟨a, ws, g, rfl, h1, _, rs, le⟩ := r.seq s h
      rw [intsD_some h2] at rs
      refine ⟨a, ns, rfl, by rw [← rs.ints]; exact h1 rfl, fun ns' p hp hs hn => ?_⟩
      rw [sortI_uniq hp hs]
      have ri : ∀ ns : List Int, Rps G Hs H (ns.map V.int) (ns.map D.int) f0 := fun ns => by
        induction ns with
        | nil => exact .nil fun _ => rfl
        | cons n ns ih => exact .cons (r_int n) ih fun _ => rfl
      exact resLst s q (ri _) hn
    · cases hz
  · cases hz
end
end Bx

set_option Elab.async false
set_option linter.all false
set_option maxRecDepth 100000
set_option maxHeartbeats 1000000
/-! Lists repeated; dicts written at the top. -/
namespace Bx
open PySem L2
theorem npin_su {C : Cc} {i j : Nat} {a : Addr} {cls : Value} {d : Option Addr} (h : npin C j) (hn : i ≠ j) : npin (C.su i a cls d) j := fun p hp => by
  rcases List.mem_cons.mp hp with rfl | hp
  · exact hn
  · exact h p hp
def repD : D → D → Option D
  | .nd .lst _ xs, .int k => if decide (-4611686018427387904 < k) && decide (k < 4611686018427387904) && decide (xs.length * k.toNat ≤ lim) then some (.nd .lst true (List.replicate k.toNat xs).flatten) else none
  | _, _ => none
section
variable {G : Gc} {Hs H : Hp}
theorem rps_rep {vs : List V} {xs : List D} (r : Rps G Hs H vs xs f0) : ∀ n : Nat, Rps G Hs H (List.replicate n vs).flatten (List.replicate n xs).flatten f0
  | 0 => .nil fun _ => rfl
  | n + 1 => by
    rw [List.replicate_succ, List.replicate_succ, List.flatten_cons, List.flatten_cons]
    exact r.app (rps_rep r n) fun _ => rfl
theorem repS : OpS G rRep repD := by
  intro Hs H v1 v2 d1 d2 z Q s r1 r2 hz q
  unfold repD at hz
  split at hz
  · split at hz
    · rename_i hc
      cases hz
      simp only [Bool.and_eq_true, decide_eq_true_eq] at hc
      obtain ⟨a, vs, g, rfl, hH, rs, le⟩ := r1.lst s
      rw [r2.toI]
      have rz := rs.z le
      exact ⟨a, _, vs, rfl, rfl, hH, by omega, by omega, by rw [rs.len]; exact lim_le hc.2, fun p hp => resLst s q (rps_rep rz _) hp⟩
    · cases hz
  · cases hz
end
def tabL : List (Str × Int) → Str → Option Int
  | [], _ => none
  | (k, v) :: r, z => if k = z then some v else tabL r z
def KTab (K : PySem.W.Frag) (w : World) (p : Addr) : List (Str × Int) → Prop
  | [] => True
  | (k, v) :: r => KDct K w p k (.int v) ∧ KTab K w p r
theorem tabL_get {K : PySem.W.Frag} {w : World} {p : Addr} : ∀ {t : List (Str × Int)} {z : Str} {v : Int}, KTab K w p t → tabL t z = some v → KDct K w p z (.int v)
  | [], _, _, _, h => by cases h
  | (k, v') :: r, z, v, ⟨h1, h2⟩, h => by
    unfold tabL at h
    split at h
    · rename_i e; subst e; cases h; exact h1
    · exact tabL_get h2 h
def kdct_mk {K : PySem.W.Frag} {w : World} {a : Addr} {x : Str} {i : Int} {t : Tok} {es : Array DictEntry} {n : Nat} (h1 : K.lookup a = some ⟨.type "dict", none, .dict es n, #[]⟩) (h2 : PySem.W.KeysLit w.params es.toList) (h3 : PySem.W.nsIn K a x = some (some (.int i t))) : KDct K w a x (.int i) :=
  ⟨es, n, _, h1, h2, h3, t, rfl⟩
def kKd (t : List (Str × Int)) (y : D) (e1 : En) : Rs D := match frz y with
  | .str z => (match tabL t z with
    | some v => .ok (.int v) e1
    | none => .bad)
  | _ => .bad
/-- a dict written at the top, looked up -/
def eKd (t : List (Str × Int)) (b : FE) : FE := fun e => (b e).bind (kKd t)
section
variable {X : Cx} {C : Cc} {W : WX} {pos p : Pos} {b : Expr} {Fb : FE}
theorem be_kd {x : Str} {t : List (Str × Int)} (hg : Gl X x) (hd : (x == ("__debug__" : Str)) = false) (hm : ∃ a, X.mg x = some (.ref a) ∧ KTab X.K X.w a t) (hb : BE X C W b Fb) (hs : PlainIx b) : BE X C W (.Subscript (.Name x p) b pos) (eKd t Fb) := by
  obtain ⟨a, hm, ht⟩ := hm
  refine (pe_ix ix_kdict (pe_glob (v := .ref a) hg hm rfl hd) hb hs).imp fun σ H Q ⟨e, Hs, fe, P, ok, q⟩ => ?_
  refine firstE ok (EndE.bind q) fun y e1 v1 Hs1 H1 fe1 fv1 a1 ok1 r1 q1 => ?_
  unfold kKd at q1
  split at q1
  · rename_i z hz
    split at q1
    · rename_i v hv
      obtain ⟨Hs2, a2, ok2, r2, _⟩ := (ok1.fps (fun _ => rfl) (fx' := fun b => fv1 b + f0 b) fun _ => rfl).freeze r1
      rw [hz] at r2
      rw [r2.toS]
      exact ⟨a, z, _, rfl, rfl, tabL_get ht hv, q1 _ Hs2 H1 fe1 f0 (a1.trans a2) ok2 (r_int _)⟩
    · exact q1.elim
  · exact q1.elim
end
end Bx

set_option Elab.async false
set_option linter.all false
set_option maxRecDepth 100000
set_option maxHeartbeats 1000000
/-! Calls that look alone: what is handed is frozen for the call. -/
namespace Bx
open PySem L2
def Kd.nd : Kd → Bool
  | .dk _ => false
  | .dt _ => false
  | _ => true
mutual
/-- no dict within -/
def noDk : D → Bool
  | .nd k _ xs => k.nd && noDks xs
  | _ => true
def noDks : List D → Bool
  | [] => true
  | x :: xs => noDk x && noDks xs
end
def Pl : HO → Prop
  | .lst _ => True
  | .tup _ => True
  | .ins _ _ _ => True
  | _ => False
section
variable {G : Gc} {Hs H : Hp}
mutual
theorem Rp.foot {v : V} {d : D} {f : Fp} : Rp G Hs H v d f → noDk d = true → ∀ b, f b ≠ 0 → ∃ o, H b = some o ∧ Pl o
  | .non z, _, b, hb => absurd (z b) hb
  | .bl z, _, b, hb => absurd (z b) hb
  | .int z, _, b, hb => absurd (z b) hb
  | .str z, _, b, hb => absurd (z b) hb
  | .ty z, _, b, hb => absurd (z b) hb
  | .sh h r z, _, b, hb => absurd (z b) hb
  | .own (a := a) (k := k) (vs := vs) (xs := xs) h w n r e, hd, b, hb => by
    have hd' : (k.nd && noDks xs) = true := hd
    rw [Bool.and_eq_true] at hd'
    by_cases hba : b = a
    · subst hba
      cases k with
      | lst => exact ⟨_, h, trivial⟩
      | tup => exact ⟨_, h, trivial⟩
      | wl => cases w
      | wt => cases w
      | dk ks => cases hd'.1
      | dt ks => cases hd'.1
      | ins c fn => obtain ⟨_, dx, h2⟩ := h; exact ⟨_, h2, trivial⟩
    · rw [e b, if_neg hba] at hb
      exact Rps.foot r hd'.2 b hb
theorem Rps.foot {vs : List V} {ds : List D} {f : Fp} : Rps G Hs H vs ds f → noDks ds = true → ∀ b, f b ≠ 0 → ∃ o, H b = some o ∧ Pl o
  | .nil z, _, b, hb => absurd (z b) hb
  | .cons (f := f1) (g := g1) (d := d) (ds := ds) r rs e, hd, b, hb => by
    have hd' : (noDk d && noDks ds) = true := hd
    rw [Bool.and_eq_true] at hd'
    by_cases h1 : f1 b = 0
    · exact Rps.foot rs hd'.2 b (by rw [e b, h1] at hb; simpa using hb)
    · exact Rp.foot r hd'.1 b h1
end
theorem Rpb.view : ∀ {vs : List V} {ds : List D}, Rpb G Hs H vs ds → noDks ds = true → ∃ T : Addr → Prop, (∀ b, T b → Hs b = none ∧ ∃ o, H b = some o ∧ Pl o) ∧ ∀ Hs2, Same Hs Hs2 → (∀ b, T b → Hs2 b = H b) → Rps G Hs2 H vs (frzs ds) f0
  | _, _, .nil, _ => ⟨fun _ => False, fun b h => h.elim, fun Hs2 _ _ => .nil fun _ => rfl⟩
  | _, _, .cons (f := f) (d := d) (ds := ds) r rs, hd => by
    have hd' : (noDk d && noDks ds) = true := hd
    rw [Bool.and_eq_true] at hd'
    obtain ⟨T, h1, h2⟩ := Rpb.view rs hd'.2
    refine ⟨fun b => f b ≠ 0 ∨ T b, fun b hb => ?_, fun Hs2 s k => ?_⟩
    · rcases hb with hb | hb
      · exact ⟨(r.live b hb).2, r.foot hd'.1 b hb⟩
      · exact h1 b hb
    · exact .cons (r.frz s (f0 := f0) (fun _ => rfl) fun b hb => k b (.inl hb)) (h2 Hs2 s fun b hb => k b (.inr hb)) fun b => rfl
end
/-- a call that looks alone -/
def eCallV (n : Nat) (F : List D → CR) (as : FA) : FE := fun e => (as e).bind fun as e1 => match avs e1 as with
  | some ds => if ds.length = n ∧ noDks ds = true then (match F (frzs ds) with
    | .ok z _ => if flatZ z then .ok z e1 else .bad
    | .exc x _ => if x.xs.all D.sc then .exc x e1 else .bad
    | .bad => .bad) else .bad
  | none => .bad
section
variable {X : Cx} {C : Cc} {W : WX} {pos : Pos} {a : Expr} {es : List Expr} {As : FA}
theorem view_read {F : List D → CR} {n : Nat} {σ : L2.St} {H : Hp} {Q : VK} (h : canE C W (eCallV n F As) σ H Q) : canA C W As σ H fun vs H1 => spD C.toGc n F vs H1 Q (WE W σ) := by
  classical
  obtain ⟨e, Hs, fe, P, ok, q⟩ := h
  refine firstA ok q.bind fun as e1 vs Hs1 H1 fe1 fv1 a1 ok1 r1 q1 => ?_
  have q2 := q1.shift a1
  cases ht : avs e1 as with
  | none => rw [ht] at q2; exact q2.elim
  | some ds =>
    rw [ht] at q2
    dsimp only at q2
    by_cases hn : ds.length = n ∧ noDks ds = true
    rotate_left
    · rw [if_neg hn] at q2; exact q2.elim
    rw [if_pos hn] at q2
    have rb := r1.look ok1.sl ht
    obtain ⟨T, t1, t2⟩ := rb.view hn.2
    have s2 : Same Hs1 (fun b => if T b then H1 b else Hs1 b) := fun b u hb => by
      by_cases z : T b
      · rw [(t1 b z).1] at hb; cases hb
      · show (if T b then H1 b else Hs1 b) = some u
        rw [if_neg z]; exact hb
    have rd := t2 (fun b => if T b then H1 b else Hs1 b) s2 fun b hb => if_pos hb
    have sm2 : Sm (fun b => if T b then H1 b else Hs1 b) H1 := fun b u hb => by
      by_cases z : T b
      · have hb' : (if T b then H1 b else Hs1 b) = some u := hb
        rw [if_pos z] at hb'; exact .inl hb'
      · have hb' : (if T b then H1 b else Hs1 b) = some u := hb
        rw [if_neg z] at hb'; exact ok1.wf.sm b u hb'
    have len : vs.length = n := by have := rd.len; rw [frzs_len] at this; rw [this, hn.1]
    refine ⟨len, frzs ds, fun b => if T b then H1 b else Hs1 b, f0, fun b => P b ∨ (fe1 b ≠ 0 ∧ ¬ T b), ⟨sm2, fun b => Nat.zero_le _, fun b hb => absurd rfl hb, fun b hb => rfl, fun b hb => ?_⟩, rd, ?_⟩
    · rcases hb with hb | hb
      · exact ok1.wf.live b hb
      · exact (ok1.sl.live b hb.1).1
    -- the state behind the call
    have back : ∀ {Hs' H' : Hp} {fo fv : Fp}, Aft (fun b => if T b then H1 b else Hs1 b) H1 Hs' H' (fun b => P b ∨ (fe1 b ≠ 0 ∧ ¬ T b)) → Wf Hs' H' (fun b => fo b + fv b) (fun b => P b ∨ (fe1 b ≠ 0 ∧ ¬ T b)) →
        Aft Hs1 H1 (fun b => if T b then Hs1 b else Hs' b) H' P ∧ Ok C (fun b => if T b then Hs1 b else Hs' b) H' σ e1 fe1 (fun b => fv b) P ∧ (∀ b, T b → Hs' b = H1 b) := by
      intro Hs' H' fo fv af wf
      have tT : ∀ b, T b → Hs' b = H1 b := fun b hb => by
        obtain ⟨_, o, ho, _⟩ := t1 b hb
        have h5 : (fun b => if T b then H1 b else Hs1 b) b = some o := (if_pos hb).trans ho
        rw [af.sh b o h5, ho]
      have tH : ∀ b, T b → H' b = H1 b := fun b hb => by
        obtain ⟨_, o, ho, hp⟩ := t1 b hb
        have h5 := tT b hb
        rw [ho] at h5
        rcases wf.sm b o h5 with h | ⟨lk, _⟩
        · rw [h, ho]
        · cases o <;> first | exact lk.elim | exact hp.elim
      have tv : ∀ b, T b → fv b = 0 := fun b hb => by
        by_cases z : fv b = 0
        · exact z
        · have h5 := wf.own b (by omega)
          obtain ⟨_, o, ho, _⟩ := t1 b hb
          rw [tT b hb, ho] at h5; cases h5
      have kp : ∀ b, P b ∨ (fe1 b ≠ 0 ∧ ¬ T b) → H' b = H1 b ∧ (T b ∨ Hs' b = Hs1 b) := fun b hb => by
        have h5 := af.keep b hb
        refine ⟨h5.1, ?_⟩
        by_cases z : T b
        · exact .inl z
        · have h6 : Hs' b = (if T b then H1 b else Hs1 b) := h5.2
          rw [if_neg z] at h6; exact .inr h6
      have sh : Same Hs1 (fun b => if T b then Hs1 b else Hs' b) := fun b u hb => by
        by_cases z : T b
        · rw [(t1 b z).1] at hb; cases hb
        · show (if T b then Hs1 b else Hs' b) = some u
          rw [if_neg z]; exact af.sh b u (s2 b u hb)
      refine ⟨⟨sh, fun b hb => ⟨(af.keep b (.inl hb)).1, ?_⟩, af.mono⟩, ⟨⟨fun b u hb => ?_, fun b => ?_, fun b hb => ?_, fun b hb => ?_, fun b hb => wf.live b (.inl hb)⟩, ok1.sl.mono sh fun b hb => ?_, ok1.pn, ok1.ex.mono sh⟩, tT⟩
      · show (if T b then Hs1 b else Hs' b) = Hs1 b
        rcases kp b (.inl hb) with ⟨_, z | z⟩
        · rw [if_pos z]
        · by_cases y : T b
          · rw [if_pos y]
          · rw [if_neg y, z]
      · have hb' : (if T b then Hs1 b else Hs' b) = some u := hb
        by_cases z : T b
        · rw [if_pos z, (t1 b z).1] at hb'; cases hb'
        · rw [if_neg z] at hb'; exact wf.sm b u hb'
      · have h1 := ok1.wf.one b; have h2 := wf.one b
        by_cases z : fe1 b = 0
        · omega
        · by_cases y : T b
          · have := tv b y; omega
          · have := wf.apart b (.inr ⟨z, y⟩); omega
      · show (if T b then Hs1 b else Hs' b) = none
        by_cases y : T b
        · rw [if_pos y]; exact (t1 b y).1
        · rw [if_neg y]
          by_cases z : fe1 b = 0
          · exact wf.own b (by omega)
          · rcases kp b (.inr ⟨z, y⟩) with ⟨_, w | w⟩
            · exact absurd w y
            · rw [w]; exact (ok1.sl.live b z).2
      · have := ok1.wf.apart b hb
        have := wf.apart b (.inl hb)
        omega
      · by_cases y : T b
        · refine ⟨tH b y, ?_⟩
          show (if T b then Hs1 b else Hs' b) = none
          rw [if_pos y]; exact (t1 b y).1
        · have h5 := kp b (.inr ⟨hb, y⟩)
          refine ⟨h5.1, ?_⟩
          show (if T b then Hs1 b else Hs' b) = none
          rw [if_neg y]
          rcases h5.2 with w | w
          · exact absurd w y
          · rw [w]; exact (ok1.sl.live b hb).2
    cases hF : F (frzs ds) with
    | bad => rw [hF] at q2; exact q2
    | ok d os =>
      rw [hF] at q2
      dsimp only at q2
      intro v Hs' H' fv fo af wf rv so
      by_cases hz : flatZ d = true
      · rw [if_pos hz] at q2
        obtain ⟨af2, ok3, tT⟩ := back af wf
        refine q2 v _ H' fe1 fv af2 ok3 (rv.flatT hz fun b hb => ok3.wf.own b (by show fe1 b + fv b ≠ 0; omega))
      · rw [if_neg hz] at q2; exact q2.elim
    | exc x os =>
      rw [hF] at q2
      dsimp only at q2
      intro dd Hs' H' fo af wf so ex
      by_cases hz : x.xs.all D.sc = true
      · rw [if_pos hz] at q2
        obtain ⟨af2, ok3, tT⟩ := back (fo := fo) (fv := f0) af (wf.less fun b => Nat.le_refl _)
        refine q2 dd _ H' fe1 af2 (ok3.fps (fun _ => rfl) fun _ => rfl) ?_
        obtain ⟨ws, h1, h2, h3⟩ := ex
        refine ⟨ws, ?_, h2, h3.scT hz⟩
        show (if T dd then Hs1 dd else Hs' dd) = _
        by_cases y : T dd
        · obtain ⟨_, o, ho, hp⟩ := t1 dd y
          rw [tT dd y, ho] at h1
          cases h1; exact hp.elim
        · rw [if_neg y]; exact h1
      · rw [if_neg hz] at q2; exact q2.elim
theorem be_callV {k n : Nat} {f : Addr} {fd : FuncData} {ps : List Str} {Fn : List D → CR} {x : Str} {p : Pos} (F : FnOk X.prog X.w X.K X.mg X.base (L2.CX X.prog X.w) k f fd ps (spD C.toGc n Fn)) (hr : Room k X.A) (hg : Gl X x) (hm : X.mg x = some (.ref f)) (hk : PySem.W.keepIn X.K (.ref f) = true)
    (hb : Binds X.K fd ps []) (tk : Takes X W) (ha : BA X C W (a :: es) As) (hdb : (x == ("__debug__" : Str)) = false) (he : starEach (a :: es) X.env = (false, eval a X.env) :: starEach es X.env) (hpl : (backTo pos (starEach es X.env)).any (·.1) = false) :
    BE X C W (.Call (.Name x p) (a :: es) [] pos) (eCallV n Fn As) :=
  (pe_callS F hr hg hm hk hb (E := WE W) (fun σ => passAt tk σ) ha hdb he hpl).imp fun σ H Q h => view_read h
end
end Bx

set_option Elab.async false
set_option linter.all false
set_option maxRecDepth 100000
set_option maxHeartbeats 1000000
/-! Chains of comparisons, index, extend, methods of a new instance, tuples of the top. -/
namespace Bx
open PySem L2
/-! ### a op b op' c -/
def eChain (g g' : D → D → Option D) (a b c : FE) : FE := fun e => (a e).bind fun x e1 => (b e1).bind fun y e2 => match g (frz x) (frz y) with
  | some (.bl k) => if k then (c e2).bind fun w e3 => .opt (g' (frz y) (frz w)) e3 else .ok (.bl false) e2
  | _ => .bad
section
variable {X : Cx} {C : Cc} {W : WX} {pos : Pos} {a b c : Expr} {Fa Fb Fc : FE}
theorem chain_read {r r' : R2} {g g' : D → D → Option D} (hs : OpS C.toGc r g) (hs' : OpS C.toGc r' g') {σ : L2.St} {H : Hp} {Q : VK} (h : canE C W (eChain g g' Fa Fb Fc) σ H Q) : tChain r r' (canE C W Fa) (canE C W Fb) (canE C W Fc) σ H Q := by
  obtain ⟨e, Hs, fe, P, ok, q⟩ := h
  refine firstE ok q.bind fun d1 e1 v1 Hs1 H1 fe1 fv1 a1 ok1 r1 q1 => ?_
  refine bindE ok1 (.rp r1) (q1.shift a1).bind fun d2 e2 v2 Hs2 H2 fe2 fv2 a2 ok2 r1 r2 q2 => ?_
  obtain ⟨Hs3, a3, ok3, r1', r2'⟩ := ok2.frzX r1 (.rp r2)
  obtain ⟨Hs4, a4, ok4, r2'', r1''⟩ := (ok3.fps (fun _ => rfl) (fx' := fun b => fv2 b + f0 b) fun _ => rfl).frzX r2' (.rp r1')
  have q3 := (q2.shift (a2.weak fun b hb => .inl hb)).shift (a3.trans a4)
  cases hz : g (frz d1) (frz d2) with
  | none => rw [hz] at q3; exact q3.elim
  | some z =>
    rw [hz] at q3
    cases z with
    | bl k =>
      dsimp only at q3
      refine hs ok4.sm r1'' r2'' hz fun v Hs5 H5 fv n rz => ⟨k, rz.toB, ?_⟩
      have ok5 := ((ok4.new n fun _ h => absurd rfl h).less (fx' := f0) fun _ => Nat.zero_le _)
      have q5 := q3.shift (n.aft ok4)
      have r5 : Rp C.toGc Hs5 H5 v2 (frz d2) f0 := r2''.keepN n
      cases k with
      | true =>
        rw [if_pos rfl] at q5 ⊢
        refine bindE ok5 (.rp r5) q5.bind fun d6 e6 v6 Hs6 H6 fe6 fv6 a6 ok6 r5' r6 q6 => ?_
        obtain ⟨Hs7, a7, ok7, r7, r5''⟩ := (ok6.fps (fe' := fe6) (fx' := fun b => fv6 b + f0 b) (fun _ => rfl) fun b => Nat.add_comm _ _).frzX r6 (.rp r5')
        have q7 := (q6.shift (a6.weak fun b hb => .inl hb)).shift a7
        cases hw : g' (frz d2) (frz d6) with
        | none => rw [hw] at q7; exact q7.elim
        | some w =>
          rw [hw] at q7
          exact hs' ok7.sm r5'' r7 hw fun u Hs8 H8 fu n8 ru => q7 u Hs8 H8 fe6 fu (n8.aft ok7) ((ok7.new n8 fun _ h => absurd rfl h).fps (fun _ => rfl) fun _ => (Nat.zero_add _).symm) ru
      | false =>
        rw [if_neg (by simp)] at q5 ⊢
        exact q5 _ Hs5 H5 fe2 f0 (Aft.refl _ _ _) ok5 (r_bl _)
    | _ => exact q3.elim
theorem be_chain {op op' : CmpOp} {r r' : R2} {g g' : D → D → Option D} (ho : OpR X (compareOp op) r) (ho' : OpR X (compareOp op') r') (hs : OpS C.toGc r g) (hs' : OpS C.toGc r' g') (hm : lastMarks [op, op'] [b, c] = false) (ha : BE X C W a Fa) (hb : BE X C W b Fb) (hc : BE X C W c Fc) :
    BE X C W (.Compare a [op, op'] [b, c] pos) (eChain g g' Fa Fb Fc) := (pe_chain ho ho' ha hb hc hm).imp fun σ H Q h => chain_read hs hs' h
theorem bt_chain {op op' : CmpOp} {r r' : R2} {g g' : D → D → Option D} (ho : OpR X (compareOp op) r) (ho' : OpR X (compareOp op') r') (hs : OpS C.toGc r g) (hs' : OpS C.toGc r' g') (hm : lastMarks [op, op'] [b, c] = false) (ha : BE X C W a Fa) (hb : BE X C W b Fb) (hc : BE X C W c Fc) :
    BT X C W (.Compare a [op, op'] [b, c] pos) (tTst (eChain g g' Fa Fb Fc)) := bt_of (pt_chain ho ho' ha hb hc hm) fun σ H Q h => chain_read hs hs' h
end
/-! ### tuples and any tuples -/
def addXD : D → D → Option D
  | .nd .tup _ xs, .nd .tup _ ys => if xs.length + ys.length ≤ lim then some (.nd .tup false (xs ++ ys)) else none
  | a, b => addD a b
def rAddX (K : PySem.W.Frag) : R2 := fun x y H Q => rAddA K x y H Q ∨ rCatA K x y H Q
theorem op_addX {X : Cx} : OpR X (binaryOp .Add) (rAddX X.K) := OpR.or op_addA op_catA
theorem addXS {G : Gc} : OpS G (rAddX G.K) addXD := by
  intro Hs H v1 v2 d1 d2 z Q s r1 r2 hz q
  unfold addXD at hz
  split at hz
  · rename_i o xs o' ys
    split at hz
    · rename_i hl
      cases hz
      obtain ⟨a, vs, g, rfl, _, h1, rs1, le1⟩ := r1.seq s (b := false) (xs := xs) rfl
      obtain ⟨b, ws, g', rfl, _, h2, rs2, le2⟩ := r2.seq s (b := false) (xs := ys) rfl
      have z1 := rs1.z le1
      have z2 := rs2.z le2
      refine .inr ⟨a, b, vs, ws, rfl, rfl, h1 rfl, h2 rfl, by rw [rs1.len, rs2.len]; exact lim_le hl, fun hn => ?_, fun hn hm => ?_, fun _ _ p hp => resTup s q (z1.app z2 fun _ => rfl) hp⟩
      · have hx : xs = [] := by have := rs1.len; rw [hn] at this; exact List.length_eq_zero_iff.mp this.symm
        subst hx
        cases r2 with
        | sh at2 r z => exact res0 s q (.sh at2 r fun _ => rfl)
        | own _ _ _ _ e => have := e b; rw [if_pos rfl] at this; simp only [f0] at this; omega
      · have hy : ys = [] := by have := rs2.len; rw [hm] at this; exact List.length_eq_zero_iff.mp this.symm
        subst hy
        rw [List.append_nil] at *
        cases r1 with
        | sh at1 r z => exact res0 s q (.sh at1 r fun _ => rfl)
        | own _ _ _ _ e => have := e a; rw [if_pos rfl] at this; simp only [f0] at this; omega
    · cases hz
  · exact .inl (addS (G := G) s r1 r2 hz q)
/-! ### things of the top -/
def cV : D → Option V
  | .int i => some (.int i)
  | .str x => some (.str x)
  | .bl b => some (.bl b)
  | .non => some .non
  | _ => none
/-- a tuple written at the top, its items flat -/
def GTup (K : PySem.W.Frag) (mg : Str → Option Value) (x : Str) (xs : List D) : Prop := ∃ (a : Addr) (its : Array Value) (n : Nat) (vs : List V) (sl : Array (Option Value)), mg x = some (.ref a) ∧ K.lookup a = some ⟨.type "tuple", none, .seq its n, sl⟩ ∧ its.size ≤ sizeLine ∧ Vals vs its.toList ∧
  ∀ (G : Gc) (Hs H : Hp), Rps G Hs H vs xs f0
section
variable {X : Cx} {C : Cc} {W : WX} {pos p apos : Pos} {a b c o : Expr} {es : List Expr} {Fa Fb Fc Fo : FE} {As : FA} {Fl Fm : FL}
theorem be_gtup {x : Str} {xs : List D} (hk : X.K = C.K) (hg : Gl X x) (hd : (x == ("__debug__" : Str)) = false) (hm : GTup X.K X.mg x xs) : BE X C W (.Name x pos) (eC (.nd .wt false xs)) := by
  obtain ⟨a, its, n, vs, sl, h1, h2, h3, h4, h5⟩ := hm
  refine be_c (v := .ref a) (pe_glob hg h1 rfl hd) fun Hs H => .sh (k := .wt) (vs := vs) ?_ (h5 _ _ _) fun _ => rfl
  rw [hk] at h2
  exact .inr ⟨_, its, n, h2, rfl, rfl, h3, h4⟩
/-! ### x.index(y), texts -/
def strsD : List D → Option (List Str)
  | [] => some []
  | .str x :: xs => (strsD xs).map (x :: ·)
  | _ => none
theorem strsD_some : ∀ {xs : List D} {ss : List Str}, strsD xs = some ss → xs = ss.map D.str
  | [], _, h => by cases h; rfl
  | d :: xs, ss, h => by
    cases d with
    | str x =>
      have h' : (strsD xs).map (x :: ·) = some ss := h
      obtain ⟨ss', h1, rfl⟩ := Option.map_eq_some_iff.mp h'
      rw [strsD_some h1]; rfl
    | _ => cases h
def spos : List Str → Str → Option Nat
  | [], _ => none
  | x :: xs, y => if x = y then some 0 else (spos xs y).map (· + 1)
theorem spos_at : ∀ {xs : List Str} {y : Str} {j : Nat}, spos xs y = some j → xs[j]? = some y ∧ ∀ m, m < j → xs[m]? ≠ some y
  | [], _, _, h => by cases h
  | x :: xs, y, j, h => by
    unfold spos at h
    split at h
    · rename_i e; subst e; cases h; exact ⟨rfl, fun m hm => absurd hm (Nat.not_lt_zero _)⟩
    · rename_i e
      obtain ⟨i, h1, rfl⟩ := Option.map_eq_some_iff.mp h
      obtain ⟨h2, h3⟩ := spos_at h1
      refine ⟨h2, fun m hm => ?_⟩
      cases m with
      | zero => exact fun z => e (Option.some.inj z)
      | succ m => exact h3 m (by omega)
def idxSD : D → D → Option D
  | .nd k _ xs, .str y => match k with
    | .lst => (strsD xs).bind fun ss => (spos ss y).map fun (j : Nat) => D.int (j : Int)
    | _ => none
  | _, _ => none
/-- list.index of a text -/
def eIdx (o a : FE) : FE := fun e => (o e).bind fun x e1 => match frz x with
  | .nd .lst _ _ => (a e1).bind fun y e2 => .opt (idxSD (frz x) (frz y)) e2
  | _ => .bad
theorem rps_strs {G : Gc} {Hs H : Hp} : ∀ {vs : List V} {ss : List Str} {f : Fp}, Rps G Hs H vs (ss.map D.str) f → vs = ss.map V.str
  | _, [], _, .nil _ => rfl
  | _, s :: ss, _, .cons r rs _ => by rw [r.toS, rps_strs rs]; rfl
theorem be_idx {x : Expr} (hk : X.K = C.K) (hp : ∀ to t, PE X o to → PA X [a] t → PE X x (tBM X.K "list" (rIndex X.K) to t)) (ho : BE X C W o Fo) (ha : BE X C W a Fa) (hst : starEach [a] X.env = (false, eval a X.env) :: starEach [] X.env) : BE X C W x (eIdx Fo Fa) :=
  (hp _ _ ho (pa_cons ha pa_nil hst)).imp fun σ H Q ⟨e, Hs, fe, P, ok, q⟩ => by
    refine firstE ok (EndE.bind q) fun d1 e1 v1 Hs1 H1 fe1 fv1 a1 ok1 r1 q1 => ?_
    obtain ⟨Hs2, a2, ok2, r2, _⟩ := (ok1.fps (fun _ => rfl) (fx' := fun b => fv1 b + f0 b) fun _ => rfl).freeze r1
    have q2 := q1.shift (a1.trans a2)
    split at q2
    · rename_i o' xs hd
      rw [hd] at r2
      obtain ⟨p, vs, g, rfl, h1, _, rs, le⟩ := r2.seq ok2.sm (b := true) (xs := xs) rfl
      refine ⟨.inl ⟨rfl, vs, by rw [hk]; exact h1 rfl⟩, ?_⟩
      refine bindE ok2 (.rp r2) (EndE.bind q2) fun d3 e3 v3 Hs3 H3 fe3 fv3 a3 ok3 r2' r3 q3 => ?_
      obtain ⟨Hs4, a4, ok4, r4, r2''⟩ := (ok3.fps (fe' := fe3) (fx' := fun b => fv3 b + f0 b) (fun _ => rfl) fun b => Nat.add_comm _ _).frzX r3 (.rp r2')
      have q4 := (q3.shift (a3.weak fun b hb => .inl hb)).shift a4
      rw [hd] at q4
      cases hz : idxSD (.nd .lst o' xs) (frz d3) with
      | none => rw [hz] at q4; exact q4.elim
      | some z =>
        rw [hz] at q4
        unfold idxSD at hz
        split at hz
        · rename_i k _ xs' y he hy
          cases he
          dsimp only at hz
          obtain ⟨ss, h5, h6⟩ := Option.bind_eq_some_iff.mp hz
          obtain ⟨j, h7, rfl⟩ := Option.map_eq_some_iff.mp h6
          obtain ⟨h8, h9⟩ := spos_at h7
          rw [hy] at r4
          obtain ⟨p', vs', g', e1', h1', _, rs', le'⟩ := r2''.seq ok4.sm (b := true) (xs := xs) rfl
          cases e1'
          rw [strsD_some h5] at rs'
          have e5 := rps_strs rs'
          subst e5
          rw [r4.toS]
          refine ⟨p, _, .str y, j, .str y, rfl, rfl, by rw [hk]; exact h1' rfl, rfl, ?_, by rw [List.getElem?_map, h8]; rfl, by simp [eqV], fun m z' hm hz' => ?_, q4 _ Hs4 H3 fe3 f0 (Aft.refl _ _ _) ok4 (r_int _)⟩
          · rw [List.all_map, List.all_eq_true]; intro x _; rfl
          · rw [List.getElem?_map] at hz'
            obtain ⟨w, hw, rfl⟩ := Option.map_eq_some_iff.mp hz'
            have := h9 m hm
            rw [hw] at this
            have hne : ¬ w = y := fun z => this (by rw [z])
            simp [eqV, hne]
        · cases hz
    · exact q2.elim
theorem pcIdx (h1 : attributeBase o "index" X.env (eval o X.env) = eval o X.env) (h2 : ((backTo pos (starEach [a] X.env)).all (!·.1) && (backToKw pos (keywordEach [] X.env)).all (·.1.isSome) && decide (([a].length + ([] : List Keyword).length + if ([] : List Keyword).isEmpty then 0 else 1) < 30)) = true) (h3 : (apos.endLine == pos.line) = true)
    (h4 : starEach [a] X.env = (false, eval a X.env) :: starEach [] X.env) (h5 : (backTo pos (starEach [] X.env)).any (·.1) = false) : ∀ to t, PE X o to → PA X [a] t → PE X (.Call (.Attribute o "index" apos) [a] [] pos) (tBM X.K "list" (rIndex X.K) to t) :=
  fun _ _ ho ha => pe_bm PySem.F.plainAttrs_list PySem.F.slot_list_index PySem.F.type_list_index mt_index ho ha h1 h2 h3 h4 h5
end
end Bx

set_option Elab.async false
set_option linter.all false
set_option maxRecDepth 100000
set_option maxHeartbeats 1000000
/-! index in a tuple of the top, extend at a place, a method of a new instance. -/
namespace Bx
open PySem L2
def kGIdx (ss : List Str) (y : D) (e : En) : Rs D := match frz y with
  | .str z => (match spos ss z with
    | some j => .ok (.int (j : Int)) e
    | none => .bad)
  | _ => .bad
/-- index in a tuple of texts of the top -/
def eGIdx (ss : List Str) (a : FE) : FE := fun e => (a e).bind (kGIdx ss)
/-- place.extend(place) -/
def eExtL (p q : FL) : FE := fun e => match p e with
  | some (.nd .lst true xs, S) => (match q e with
    | some (.nd .lst _ ys, _) => if ys.all D.sc && decide (xs.length + ys.length ≤ lim) then .ok .non (S (.nd .lst true (xs ++ ys))) else .bad
    | _ => .bad)
  | _ => .bad
/-- o.m(..), o a new instance -/
def eMethE (c0 m : Str) (n : Nat) (F : List D → CR) (o : FE) (as : FA) : FE := fun e => (o e).bind fun d e1 => match d with
  | .nd (.ins c fn) _ _ => if c = c0 ∧ kpos fn m = none then (as e1).bind fun as e2 => (match takeA e2 as with
    | some (ds, e3) => if ds.length + 1 = n then (match F (d :: ds) with
      | .ok z (_ :: os) => (match putA as os e3 with
        | some e4 => .ok z e4
        | none => .bad)
      | _ => .bad) else .bad
    | none => .bad) else .bad
  | _ => .bad
section
variable {X : Cx} {C : Cc} {W : WX} {pos p apos : Pos} {a b c o : Expr} {es : List Expr} {Fa Fb Fc Fo : FE} {As : FA} {Fl Fm : FL}
theorem be_gidx {x : Str} {ss : List Str} (hk : X.K = C.K) (hg : Gl X x) (hd : (x == ("__debug__" : Str)) = false) (hm : GTup X.K X.mg x (ss.map D.str)) (ha : BE X C W a Fa)
    (h1 : attributeBase (.Name x p) "index" X.env (eval (.Name x p) X.env) = eval (.Name x p) X.env) (h2 : ((backTo pos (starEach [a] X.env)).all (!·.1) && (backToKw pos (keywordEach [] X.env)).all (·.1.isSome) && decide (([a].length + ([] : List Keyword).length + if ([] : List Keyword).isEmpty then 0 else 1) < 30)) = true) (h3 : (apos.endLine == pos.line) = true)
    (h4 : starEach [a] X.env = (false, eval a X.env) :: starEach [] X.env) (h5 : (backTo pos (starEach [] X.env)).any (·.1) = false) : BE X C W (.Call (.Attribute (.Name x p) "index" apos) [a] [] pos) (eGIdx ss Fa) := by
  obtain ⟨q, its, n, vs, sl, g1, g2, g3, g4, g5⟩ := hm
  have hv : vs = ss.map V.str := rps_strs (g5 C.toGc (fun _ => none) fun _ => none)
  subst hv
  refine (pe_bm PySem.F.plainAttrs_tuple PySem.F.slot_tuple_index PySem.F.type_tuple_index mt_tup_index (pe_glob (v := .ref q) hg g1 rfl hd) (pa_cons ha pa_nil h4) h1 h2 h3 h4 h5).imp fun σ H Q ⟨e, Hs, fe, P, ok, q0⟩ => ?_
  refine ⟨.inr (.inl ⟨rfl, _, g2, rfl, rfl⟩), ?_⟩
  refine firstE ok (EndE.bind q0) fun y e1 v1 Hs1 H1 fe1 fv1 a1 ok1 r1 q1 => ?_
  unfold kGIdx at q1
  split at q1
  · rename_i z hz
    split at q1
    · rename_i j hj
      obtain ⟨Hs2, a2, ok2, r2, _⟩ := (ok1.fps (fun _ => rfl) (fx' := fun b => fv1 b + f0 b) fun _ => rfl).freeze r1
      rw [hz] at r2
      rw [r2.toS]
      obtain ⟨h8, h9⟩ := spos_at hj
      exact ⟨q, ss, z, j, rfl, rfl, .inr ⟨_, its, n, g2, rfl, rfl, g3, g4⟩, h8, h9, q1 _ Hs2 H1 fe1 f0 (a1.trans a2) ok2 (r_int _)⟩
    · exact q1.elim
  · exact q1.elim
theorem Rps.sc0 {G : Gc} {Hs H Hs2 H2 : Hp} : ∀ {vs : List V} {ds : List D} {f : Fp}, Rps G Hs H vs ds f → ds.all D.sc = true → Rps G Hs2 H2 vs ds f0
  | _, _, _, .nil z, _ => .nil fun _ => rfl
  | _, _, _, .cons r rs e, h => by
    rw [List.all_cons, Bool.and_eq_true] at h
    exact .cons ((r.f0 h.1).scT h.1) (Rps.sc0 rs h.2) fun _ => rfl
theorem be_extL {x : Expr} (hp : ∀ tp t, PE X o tp → PA X [a] t → PE X x (tBM X.K "list" rExtend tp t)) (hl : BL X C o Fl) (ha : BL X C a Fm) (hst : starEach [a] X.env = (false, eval a X.env) :: starEach [] X.env) : BE X C W x (eExtL Fl Fm) :=
  (hp _ _ hl (pa_cons ha pa_nil hst)).imp fun σ H Q ⟨e, Hs, fe, P, ok, q⟩ => by
    unfold eExtL at q
    split at q
    · rename_i xs S h1
      split at q
      · rename_i o' ys S' h2
        split at q
        · rename_i hc
          rw [Bool.and_eq_true, decide_eq_true_eq] at hc
          refine ⟨e, Hs, fe, P, _, S, ok, h1, fun v f1 Hs1 H1 n1 l1 => ?_⟩
          obtain ⟨p, vs, g, rfl, hH, _⟩ := l1.rp.lst n1.sm
          refine ⟨.inl ⟨rfl, vs, SqL.of hH⟩, ?_⟩
          refine ⟨e, Hs1, fe, P, _, S', ok.newN n1, h2, fun u f3 Hs3 H3 n3 l3 => ?_⟩
          have l1' := l1.keepN n3 (ok.newN n1).sl
          obtain ⟨p', vs', g', e1, at_, rs, hl', rsu, rdu, fin⟩ := (ok.newN (n1.trans n3)).nodeL l1'
          cases e1
          obtain ⟨b, ws, g3, rfl, hB, rs3, le3⟩ := l3.rp.lst n3.sm
          refine ⟨p, b, vs', ws, rfl, rfl, at_, hB, by rw [hl', rs3.len]; exact lim_le hc.2, ?_⟩
          obtain ⟨fe', af, ok2⟩ := fin (.lst (vs' ++ ws)) .lst (vs' ++ ws) (xs ++ ys) g' upd_same rfl (fun b => by show g' b ≤ g' b + f0 b; omega) ((rsu _).app (rs3.sc0 hc.1) fun b => rfl)
          exact q .non Hs3 _ fe' f0 (((n1.trans n3).aft ok).trans af) (ok2.fps (fun _ => rfl) fun _ => rfl) r_non
        · exact q.elim
      · exact q.elim
    · exact q.elim
theorem pcExtL (h1 : attributeBase o "extend" X.env (eval o X.env) = eval o X.env) (h2 : ((backTo pos (starEach [a] X.env)).all (!·.1) && (backToKw pos (keywordEach [] X.env)).all (·.1.isSome) && decide (([a].length + ([] : List Keyword).length + if ([] : List Keyword).isEmpty then 0 else 1) < 30)) = true) (h3 : (apos.endLine == pos.line) = true)
    (h4 : starEach [a] X.env = (false, eval a X.env) :: starEach [] X.env) (h5 : (backTo pos (starEach [] X.env)).any (·.1) = false) : ∀ tp t, PE X o tp → PA X [a] t → PE X (.Call (.Attribute o "extend" apos) [a] [] pos) (tBM X.K "list" rExtend tp t) :=
  fun _ _ ho ha => pe_bm PySem.F.plainAttrs_list PySem.F.slot_list_extend PySem.F.type_list_extend mt_extend ho ha h1 h2 h3 h4 h5
theorem methE_read {F : List D → CR} {n : Nat} {c0 m : Str} {σ : L2.St} {H : Hp} {Q : VK} (h : canE C W (eMethE c0 m n F Fo As) σ H Q) : tMethE (C.ca c0) m (spD C.toGc n F) (WE W) (canE C W Fo) (canA C W As) σ H Q := by
  obtain ⟨e, Hs, fe, P, ok, q⟩ := h
  refine firstE ok (EndE.bind q) fun d e1 v Hs1 H1 fe1 fv1 a1 ok1 r1 q1 => ?_
  split at q1
  · rename_i c fn o' xs
    split at q1
    · rename_i hc
      obtain ⟨rfl, hm⟩ := hc
      obtain ⟨p, vs, g, rfl, rs, le, at_⟩ := r1.nd ok1.sm
      obtain ⟨hfl, dx, hH⟩ := at_.ins ok1.sm
      refine ⟨p, dx, _, rfl, hH, by rw [lookup_kpos hfl, hm]; rfl, ?_⟩
      refine bindA ok1 (.rp r1) (q1.shift a1).bind fun as e2 us Hs2 H2 fe2 fv2 a2 ok2 r1 r2 q2 => ?_
      have q3 := q2.shift (a2.weak fun b hb => .inl hb)
      cases ht : takeA e2 as with
      | none => rw [ht] at q3; exact q3.elim
      | some de =>
        obtain ⟨ds, e3⟩ := de
        rw [ht] at q3
        dsimp only at q3
        by_cases hn : ds.length + 1 = n
        rotate_left
        · rw [if_neg hn] at q3; exact q3.elim
        rw [if_pos hn] at q3
        obtain ⟨fa, fe3, rd, s3, ef, ex3⟩ := r2.take ok2.sl ht
        have one : ∀ b, fe2 b + (fv1 b + fv2 b) ≤ 1 := ok2.wf.one
        refine ⟨by rw [List.length_cons, rd.len, hn], .nd (.ins c fn) o' xs :: ds, Hs2, fun b => fv1 b + fa b, fun b => P b ∨ fe3 b ≠ 0, ⟨ok2.wf.sm, fun b => by have := one b; have := ef b; show fv1 b + fa b ≤ 1; omega, fun b hb => ok2.wf.own b (by have := ef b; show fe2 b + (fv1 b + fv2 b) ≠ 0; have hb' : fv1 b + fa b ≠ 0 := hb; omega), fun b hb => by
          show fv1 b + fa b = 0
          rcases hb with hb | hb
          · have h3 : fe2 b + (fv1 b + fv2 b) = 0 := ok2.wf.apart b hb
            have := ef b; omega
          · have := one b; have := ef b; omega, fun b hb => by
          rcases hb with hb | hb
          · exact ok2.wf.live b hb
          · exact (s3.live b hb).1⟩, .cons r1 rd fun b => rfl, ?_⟩
        cases hF : F (.nd (.ins c fn) o' xs :: ds) with
        | bad => rw [hF] at q3; exact q3
        | exc x os => rw [hF] at q3; exact q3.elim
        | ok z os0 =>
          rw [hF] at q3
          intro v Hs' H' fv fo af wf rv so0
          cases os0 with
          | nil => exact q3.elim
          | cons od os =>
            dsimp only at q3
            have so : ∃ g : Fp, (∀ b, g b ≤ fo b) ∧ Sls C.toGc Hs' H' (us.map some) os g := by
              cases so0 with
              | no so => exact ⟨_, fun b => Nat.le_refl _, so⟩
              | @yes _ _ f2 _ _ g _ r2 so q4 => exact ⟨g, fun b => by have := q4 b; omega, so⟩
            obtain ⟨g, le2, so⟩ := so
            cases hp : putA as os e3 with
            | none => rw [hp] at q3; exact q3.elim
            | some e4 =>
              rw [hp] at q3
              have s4 := s3.mono (Hs' := Hs') (H' := H') af.sh fun b hb => ⟨(af.keep b (.inr hb)).1, by rw [(af.keep b (.inr hb)).2]; exact ok2.wf.own b (by have := ef b; show fe2 b + (fv1 b + fv2 b) ≠ 0; omega)⟩
              obtain ⟨fe4, s5, le3, ex4⟩ := r2.put so s4 hp
              refine q3 v Hs' H' fe4 fv (af.weak fun b hb => .inl hb) ⟨⟨wf.sm, fun b => ?_, fun b hb => ?_, fun b hb => ?_, fun b hb => wf.live b (.inl hb)⟩, s5, ok2.pn, by rw [ex4, ex3]; exact ok2.ex.mono af.sh⟩ rv
              · have h1 := le3 b; have h2 := wf.one b; have h3 := one b; have h4 := ef b; have h5 := le2 b
                by_cases zz : fe3 b = 0
                · omega
                · have := wf.apart b (.inr zz); omega
              · have h1 := le3 b; have h5 := le2 b
                by_cases zz : fe3 b = 0
                · exact wf.own b (by omega)
                · rw [(af.keep b (.inr zz)).2]; exact ok2.wf.own b (by have := ef b; show fe2 b + (fv1 b + fv2 b) ≠ 0; omega)
              · have h1 := le3 b; have h2 := wf.apart b (.inl hb); have h4 := ef b; have h5 := le2 b
                have h3 : fe2 b + (fv1 b + fv2 b) = 0 := ok2.wf.apart b hb
                omega
    · exact q1.elim
  · exact q1.elim
theorem be_methE {k n : Nat} {f : Addr} {fd : FuncData} {ps : List Str} {Fn : List D → CR} {c0 m : Str} {Ca : Addr} {pl : Sem Bool} (hca : C.ca c0 = Ca) (c : Cls X.K Ca) (hm : Meth X.K Ca m f) (F : FnOk X.prog X.w X.K X.mg X.base (L2.CX X.prog X.w) k f fd ps (spD C.toGc n Fn)) (hr : Room k X.A)
    (hb : Binds X.K fd ps []) (tk : Takes X W) (ho : BE X C W o Fo) (ha : BA X C W (a :: es) As) (hst : starEach (a :: es) X.env = (false, eval a X.env) :: starEach es X.env) (hpl : (backTo pos (starEach es X.env)).any (·.1) = false)
    (ht : eval (.Call (.Attribute o m apos) (a :: es) [] pos) X.env = (do
      let ov ← eval o X.env
      standAt apos.atName
      let (f, first) ← holding [ov] (getMethod ov m pl)
      callWith pos f first (backTo pos (starEach (a :: es) X.env)) (backToKw pos (keywordEach [] X.env)))) :
    BE X C W (.Call (.Attribute o m apos) (a :: es) [] pos) (eMethE c0 m n Fn Fo As) :=
  (pe_methE ho c hm F hr hb (E := WE W) (fun σ => passAt tk σ) ha hst hpl ht).imp fun σ H Q h => by rw [← hca]; exact methE_read h
end
end Bx

set_option Elab.async false
set_option linter.all false
set_option maxRecDepth 100000
set_option maxHeartbeats 1000000
/-! enumerate of a tuple. -/
namespace Bx
open PySem L2
open AutoSeq1 (wpAny_loadPart')
/-- enumerate(v), told by how v's own iterator begins; what the class's maker does is left to the library's walk -/
theorem enum_of {q : Addr} {o : Obj} {Hv : Heap → Prop} {oq : Obj} (B : Begins (.ref q) o Hv) : Meets (Builtin.«enumerate.__new__» ⟨[.type "enumerate", .ref q], []⟩) fun _ R z => (Hv z.heap ∧ z.heap.get? q = some oq) ∧
    R (.ok (.ret (.ref (z.heap.push o).objs.size))) { z with heap := (z.heap.push o).push { cls := .type "enumerate", data := .fields #[.none, .bool false, .ref z.heap.objs.size, rawInt 0, .none, .none] } } :=
  .of_wp fun prog w A R ⟨hp, gs, dr, tk, os⟩ ⟨⟨hv, hq⟩, done⟩ => by
    have known := sub_enumerate
    have fin : ∀ {A' : Around} {E Q : Value → Shared → Prop}, Q (.ref hp.objs.size) ⟨hp.push o, gs, dr, tk, os⟩ → wpAny (model prog w) A' (pyIter (.ref q)) Q E ⟨hp, gs, dr, tk, os⟩ := fun k => B.iter prog w _ _ _ _ hv k
    wp_walk using wpAny_loadPart' hq
    apply wpAny_stack_any
    intro frames
    apply wpAny_pure
    split <;> first
      | (wp_walk using wpAny_loadPart' hq, fin; exact ⟨_, rfl, done⟩)
      | (rename_i c _ _ _ _ _; rcases (c == Value.type "enumerate") <;> (wp_walk using wpAny_loadPart' hq, fin; exact ⟨_, rfl, done⟩))
/-- the numbered walk of a tuple, as the hand layer wants one -/
def Itq (K : PySem.W.Frag) (q : Addr) : It where
  go i H := ∃ ys y, SqT K H q ys ∧ ys[i]? = some y
  yld i H v H' := ∃ T y, v = V.ref T ∧ H T = none ∧ H' = upd H T (.tup [.int (i : Nat), y]) ∧ ∀ ys, SqT K H q ys → ys[i]? = some y
  stop i H := ∃ ys, SqT K H q ys ∧ ys.length ≤ i
/-- where the two iterators stand -/
def AtQ (q e it : Addr) (i : Nat) (h : Heap) : Prop := (∃ old, IsEnum h e it i old) ∧ h.IsTupleIter it q i
section
variable {q e it : Addr}
theorem vals_nth : ∀ {xs : List V} {us : List Value} {i : Nat} {x : V}, Vals xs us → xs[i]? = some x → ∃ u, us[i]? = some u ∧ RelV x u
  | _ :: _, _ :: _, 0, _, .cons r _, h => ⟨_, rfl, Option.some.inj h ▸ r⟩
  | _ :: _, _ :: _, i + 1, _, .cons _ t, h => by simpa using vals_nth (i := i) t (by simpa using h)
theorem apart_q {h : Heap} {c : Int} {old : Value} {ys : Array Value} (o1 : IsEnum h e it c old) (tup : h.IsTuple q ys) : e ≠ q := by
  rintro rfl
  obtain ⟨o, o2, o3, _⟩ := tup
  have both : some o = some _ := o2.symm.trans o1
  rw [Option.some.inj both] at o3
  simp at o3
theorem one_reading {X : Cx} {pins : List (Addr × Obj)} {σ : L2.St} {H : Hp} {s : Shared} {xs ys : List V} (I : Inv X pins σ H s) (a : SqT X.K H q xs) (b : SqT X.K H q ys) : xs = ys := by
  obtain ⟨us, va, ⟨o, o1, _, _, o2⟩, _⟩ := I.tuple a
  obtain ⟨vs, vb, ⟨o', p1, _, _, p2⟩, _⟩ := I.tuple b
  cases Option.some.inj (o1.symm.trans p1)
  rw [o2] at p2
  injection p2 with z
  exact va.inj ((List.toArray_inj z) ▸ vb)
theorem turnQ {P : Program} {w : World} {K : PySem.W.Frag} {elts : List Expr} {kk : Nat} {tp : Pos} (ne : e ≠ it) (nq : q ≠ it) : Turn P w K (.Tuple elts kk tp) (Itq K q) [e, it] e (AtQ q e it) where
  mem := List.mem_cons_self
  obj i h st b hb := by
    obtain ⟨⟨_, o1⟩, o, o2, _, o3⟩ := st
    simp only [List.mem_cons, List.not_mem_nil, or_false] at hb
    rcases hb with rfl | rfl
    · exact ⟨_, o1, fun v z => nomatch z⟩
    · exact ⟨o, o2, fun v z => nomatch o3.symm.trans z⟩
  keep i h h' st k := ⟨st.1.imp fun _ o1 => k e (by simp) _ o1, st.2.at fun o o1 => k it (by simp) o o1⟩
  item := by
    rintro X rfl rfl rfl calm i pins s σ H E I own st ⟨ys, y, sq, hy⟩
    obtain ⟨us, vals, tup, _⟩ := I.tuple sq
    obtain ⟨u, hu, ru⟩ := vals_nth vals hy
    have nqe := st.1.elim fun _ o1 => apart_q o1 tup
    have lib := GoesN.ofWalksT (elts := elts) (k := kk) (pos := tp) (WalksT.enumerateD (prog := X.prog) (w := X.w) (A := X.A) (Draws.tuple (A := X.A.in1) (I.ok.hd calm) it q nq us.toArray) e ne (by simp [ne, nqe]) (by simp))
    apply lib.goes i s _ E (by rw [List.size_toArray]; exact (List.getElem?_eq_some_iff.mp hu).1) ⟨st.1, st.2, tup⟩
    rintro _ h' tk ⟨T, _, rfl, low, ⟨n, u', hu', rfl⟩, new⟩ ⟨st1, st2, _⟩ rest -
    have same : u' = u := by
      have a : us[i]? = some u' := by simpa using hu'
      exact Option.some.inj (a.symm.trans hu)
    subst same
    have fresh := I.hok.fresh low
    refine ⟨.ref T, upd H T (.tup [.int (i : Nat), y]), I.turnedNew rest own low ⟨by rw [sizeLine_eq]; simp, [.int i n, u'], .cons ⟨n, rfl⟩ (.cons ru .nil), new⟩, rfl, ⟨T, y, rfl, fresh, rfl, fun zs sz => ?_⟩, ⟨st1, st2⟩, fun b hb => ?_⟩
    · exact (one_reading I sz sq) ▸ hy
    · rw [upd_ne]
      · exact (own b hb).1
      · rintro rfl
        obtain ⟨⟨_, o1⟩, _, o2, _⟩ := st
        simp only [List.mem_cons, List.not_mem_nil, or_false] at hb
        rcases hb with rfl | rfl
        · exact absurd (Heap.lt_size o1) (Nat.not_lt.mpr low)
        · exact absurd (Heap.lt_size o2) (Nat.not_lt.mpr low)
  done := by
    rintro X rfl rfl rfl calm i pins s σ H E I own st ⟨ys, sq, le⟩
    obtain ⟨us, vals, tup, _⟩ := I.tuple sq
    obtain ⟨⟨old, o1⟩, o2⟩ := st
    -- behind the last item the tuple's iterator stops: it draws nothing at i, as at the end
    have none_left : us.toArray[i]? = none := by
      rw [List.getElem?_toArray]
      exact List.getElem?_eq_none (by rw [← vals.length]; exact le)
    have D : Draws X.prog X.w X.A.in1 it [it, q] 0 (fun _ _ => False) (fun k h => k = 0 ∧ h.IsTupleIter it q i ∧ h.IsTuple q us.toArray) :=
      { live := fun _ _ a => a.2.1.imp fun _ b => b.1, frame := fun _ _ _ a k => ⟨a.1, a.2.1.at fun o x => k it (by simp) o x, a.2.2.at fun o x => k q (by simp) o x⟩
        item := fun _ _ _ _ lt _ _ => absurd lt (Nat.not_lt_zero _), done := fun _ _ _ a k => wpAny_nextOf_tuple_end (I.ok.hd calm) a.2.1 a.2.2 none_left k }
    exact wpAny_pyNext_enum_endD D o1 ⟨rfl, o2, tup⟩ fun h' k => ⟨rfl, I.turnedL (ch := [e, it]) (t' := s.toks) (fun b o hb x => k b o (fun z => hb (by simp [z])) x) own⟩
  self A i s Q E st k := st.1.elim fun _ o1 => wpAny_pyIter_enum o1 k
def iEnumT (K : PySem.W.Frag) (ta : TA) : TI := fun σ H R => ta σ H fun vs H1 => ∃ q ys, vs = [V.ref q] ∧ SqT K H1 q ys ∧ R (Itq K q) H1
theorem pi_enumT {X : Cx} {a : Expr} {ta : TA} {p pos tp : Pos} {elts : List Expr} {kk : Nat} (hg : Gl X "enumerate") (hm : X.mg "enumerate" = none) (ha : PA X [a] ta) (hs : starEach [a] X.env = [(false, eval a X.env)]) : PI X (.Tuple elts kk tp) (.Call (.Name "enumerate" p) [a] [] pos) (iEnumT X.K ta) := by
  constructor
  intro pins s σ H R I wish
  refine PyProof.Rows.Call_ (ld_blt I hg hm PyProof.Rows.boot_enumerate (PyProof.Rows.callWith_type1 (thn (ha.run pos pins s σ H _ I wish) ?_) hs rfl))
  rintro us s1 ⟨_, H1, I1, rel, q, ys, rfl, sq, next⟩
  obtain ⟨_, rfl, rfl⟩ := rel.one
  obtain ⟨its, _, tup, _⟩ := I1.tuple sq
  obtain ⟨oq, hq, _⟩ := id tup
  have young : q < s1.heap.objs.size := Heap.lt_size hq
  refine callType_new F.called_enumerate (by decide) (F.typeCall_enumerate_1 _) (F.newCall_enumerate_1 _) (fun ob => F.args_object_init_2 ob _) F.entry_enumerate_new (enum_of (begins_tuple q its.toArray) (oq := oq)) ⟨⟨tup, hq⟩, ?_⟩
  generalize ei : ({ cls := .type "tuple_iterator", data := .fields #[.ref q, .int 0 0] } : Obj) = oi
  have n1 : (s1.heap.push oi).objs.size = s1.heap.objs.size + 1 := Heap.size_push ..
  generalize eo : ({ cls := .type "enumerate", data := .fields #[.none, .bool false, .ref s1.heap.objs.size, rawInt 0, .none, .none] } : Obj) = oe
  have at1 : ((s1.heap.push oi).push oe).get? s1.heap.objs.size = some oi := Heap.get?_push_of_some _ (Heap.get?_push_size _ (ei ▸ rfl))
  have at2 : ((s1.heap.push oi).push oe).get? (s1.heap.objs.size + 1) = some oe := n1 ▸ Heap.get?_push_size _ (eo ▸ rfl)
  have en : IsEnum ((s1.heap.push oi).push oe) (s1.heap.objs.size + 1) s1.heap.objs.size 0 .none := by rw [← eo] at at2 ⊢; exact at2
  rw [n1]
  refine ⟨⟨_, at2, by rw [← eo]⟩, wpAny_pyIter_enum (s := { s1 with heap := (s1.heap.push oi).push oe }) en ?_⟩
  refine ⟨s1.heap.objs.size + 1, _, _, Itq X.K q, H1, rfl, I1.kept (t' := s1.toks) fun b u x => Heap.get?_push_of_some _ (Heap.get?_push_of_some _ x), turnQ (Nat.succ_ne_self _) (Nat.ne_of_lt young), ⟨⟨_, en⟩, oi, at1, by rw [← ei], by rw [← ei]; rfl⟩, fun b hb => ?_, next⟩
  have old : s1.heap.objs.size ≤ b := by
    rcases List.mem_cons.mp hb with z | z
    · exact z ▸ Nat.le_succ _
    · exact (List.mem_singleton.mp z) ▸ Nat.le_refl _
  exact I1.fpOk old (I1.hok.fresh old)
end
theorem jok_enumT {G : Gc} {Hs : Hp} {p : Addr} {vs : List V} {xs : List D} (h : ∀ Hs2 H2, Same Hs Hs2 → Sm Hs2 H2 → SqT G.K H2 p vs) (rs : ∀ Hs2 H2, Same Hs Hs2 → Rps G Hs2 H2 vs xs f0) : JOk G (Itq G.K p) (enumD 0 xs) Hs := by
  refine ⟨fun Hs2 H2 s m => ⟨vs, h _ _ s m, by rw [enumD_len]; exact Nat.le_of_eq (rs Hs2 H2 s).len⟩, fun Hs2 H2 i d s m e => ?_, fun Hs2 H2 i d x H' s m e y => ?_⟩
  · rw [enumD_get] at e
    obtain ⟨x, hx, _⟩ := Option.map_eq_some_iff.mp e
    obtain ⟨v, hv, _⟩ := (rs Hs2 H2 s).at hx
    exact ⟨vs, v, h _ _ s m, hv⟩
  · rw [enumD_get] at e
    obtain ⟨z, hz, rfl⟩ := Option.map_eq_some_iff.mp e
    obtain ⟨T, w, rfl, nT, rfl, k⟩ := y
    obtain ⟨v, hv, rv⟩ := (rs Hs2 H2 s).at hz
    have := k vs (h _ _ s m)
    rw [hv] at this; cases this
    refine ⟨_, New.mkS m nT, newTup m nT ?_⟩
    rw [Nat.zero_add]
    exact .cons (r_int _) (.cons rv (.nil (f := f0) fun _ => rfl) fun _ => rfl) fun _ => rfl
/-- enumerate of a tuple -/
def iEnT (as : FA) : FI := fun e => (as e).bind fun as e1 => .opt ((dvs as).bind fun ds => match frzs ds with
  | [d] => (match d.seq with
    | some (false, xs) => some (enumD 0 xs)
    | _ => none)
  | _ => none) e1
theorem bi_enumT {X : Cx} {C : Cc} {W : WX} {a : Expr} {As : FA} {p ppos tpos : Pos} {elts : List Expr} {kk : Nat} (hk : X.K = C.K) (hg : Gl X "enumerate") (hm : X.mg "enumerate" = none) (ha : BA X C W [a] As) (h1 : starEach [a] X.env = [(false, eval a X.env)]) :
    BI X C W (.Tuple elts kk tpos) (.Call (.Name "enumerate" p) [a] [] ppos) (iEnT As) :=
  (pi_enumT hg hm ha h1).imp fun σ H R ⟨e, Hs, fe, P, ok, q⟩ => by
    refine firstA ok (EndI.bind q) fun as e1 vs Hs1 H1 fe1 fv1 a1 ok1 r1 ⟨_, q1⟩ => ?_
    cases h : ((dvs as).bind fun ds => match frzs ds with
      | [d] => (match d.seq with
        | some (false, xs) => some (enumD 0 xs)
        | _ => none)
      | _ => none) with
    | none => rw [h] at q1; exact q1.elim
    | some z =>
      rw [h] at q1
      obtain ⟨ds, h1, h2⟩ := Option.bind_eq_some_iff.mp h
      obtain ⟨Hs3, a3, ok3, r3⟩ := ok1.freezes (r1.vals h1)
      have q3 := q1.shift (a1.trans a3)
      split at h2
      · rename_i d hd
        split at h2
        · rename_i xs hs
          cases h2
          rw [hd] at r3
          obtain ⟨v, rfl, rv⟩ := r3.one
          obtain ⟨p, ws, rfl, _, hT, rs⟩ := rp_seqS rv hs
          obtain ⟨j1, j2⟩ := jok_seqT (hT rfl) rs
          refine ⟨p, ws, rfl, by rw [hk]; exact j1 _ _ (Same.refl _) ok3.sm, q3 _ Hs3 H1 fe1 (Aft.refl _ _ _) ok3 ?_⟩
          rw [hk]
          exact jok_enumT (G := C.toGc) j1 j2
        · cases h2
      · cases h2
end Bx

set_option Elab.async false
set_option linter.all false
set_option maxRecDepth 100000
set_option maxHeartbeats 1000000
/-! Several clauses of one try, each with the same name behind `as`.
A caught exception is a structure (Caught); three lemmas tell what may be done with one: it flies on, a clause's suite ends, a clause is asked. The clauses' list is then a plain induction. -/
namespace L2
open PySem PySem.Spec PyProof.Rows
abbrev Cl := Value × (Addr → Value → Option Addr → TS)
/-- the ends of a suite: the name is gone -/
def Ends.bare (Dn : Ends) (j : Nat) : Ends := ⟨fun st hp => Dn.nx (st.set j none) hp, Dn.rt, fun st hp => Dn.bk (st.set j none) hp, fun st hp => Dn.ct (st.set j none) hp⟩
def wCl (Kf : PySem.W.Frag) (j : Nat) (Wo : WX) (Dn : Ends) : List Cl → WX
  | [] => Wo
  | q :: rest => fun cv dv st hp => ∃ yes, PySem.W.exmOne Kf cv q.1 = some yes ∧ match yes with | true => ∀ ad, hp ad = none → q.2 ad cv dv (Dn.bare j) (st.set j (some (.ref ad))) hp | false => wCl Kf j Wo Dn rest cv dv st hp
/-- ad is caught in the frame of Y, as the state t stands; was: the state it left behind -/
structure Caught (Y : Cx) (pins : List (Addr × Obj)) (ad : Addr) (gr : Heap) (was : Shared) (st : St) (hp : Hp) (cv : Value) (dv : Option Addr) (t : Shared) : Prop where
  old : Inv Y pins st hp was
  low : ∀ b o, was.heap.get? b = some o → b ∉ frs Y.stack → gr.get? b = some o
  grown : was.heap.UpToSlots t.heap
  fly : HandSPX.FlyingZ gr (Y.env :: Y.outer) ad (Zc cv dv) t.heap
  free : hp ad = none
  world : t.os = was.os ∧ AllBare t.gens
namespace Caught
variable {Y : Cx} {pins : List (Addr × Obj)} {ad : Addr} {gr : Heap} {was t : Shared} {st : St} {hp : Hp} {cv : Value} {dv : Option Addr}
theorem inv (c : Caught Y pins ad gr was st hp cv dv t) : Inv Y pins st hp t := c.old.landed c.low c.fly.1 c.grown c.world.1 c.world.2
theorem step (c : Caught Y pins ad gr was st hp cv dv t) {g : Heap} (f : HandSPX.FlyingZ gr (Y.env :: Y.outer) ad (Zc cv dv) g) (u : t.heap.UpToSlots g) : Caught Y pins ad gr was st hp cv dv { t with heap := g } :=
  { c with grown := c.grown.trans u, fly := f }
/-- it is no frame's object -/
theorem apart (c : Caught Y pins ad gr was st hp cv dv t) : ∀ e ∈ Y.env :: Y.outer, e.frame ≠ some ad := by
  intro e me ef
  obtain ⟨ob, fv, o1, _, o2⟩ := c.fly.there
  have m := c.fly.2.2.1.mem (List.mem_filterMap.mpr ⟨e, me, ef⟩)
  exact m.2.elim fun o3 h => h.2 fv (by rw [o1] at h; exact (Option.some.inj h.1) ▸ o2)
variable {n : Str} {j : Nat}
theorem inSuite (c : Caught Y pins ad gr was st hp cv dv t) (own : Y.env.frame = some Y.env.locals) :
    ∃ ob, Zc cv dv ob ∧ (∃ fv, ob.data = .fields fv) ∧ t.heap.get? ad = some ob ∧ Inv (Y.suite ad ((ad, ob) :: (Y.pn ++ pins))) [] st hp t := by
  obtain ⟨ob, fv, o1, o2, o3⟩ := c.fly.there
  have ap := c.apart
  refine ⟨ob, o2, ⟨fv, o3⟩, o1, c.inv.suite o1 o3 c.free (fun z => ap _ List.mem_cons_self (z ▸ own)) fun m => ?_⟩
  have ⟨e, me, ef⟩ := List.mem_filterMap.mp m
  exact ap e (List.mem_cons_of_mem _ me) ef
end Caught
section
variable {Y : Cx} {pins : List (Addr × Obj)} {ad : Addr} {gr : Heap} {was t : Shared} {st : St} {hp : Hp} {cv : Value} {dv : Option Addr} {Dn : Ends} {Wo : WX} {n : Str} {j : Nat}
/-- what handling it is to reach -/
abbrev Done (Y : Cx) (pins : List (Addr × Obj)) (ad : Addr) (Dn : Ends) (hs : List ExceptHandler) (t : Shared) : Prop := wpAny (model Y.prog Y.w) Y.A (handleBy (.ref ad) Y.env hs) (SP Y pins Dn) Y.xe t
theorem done_none (stk : Y.stack = Y.env :: Y.outer) (own : Y.env.frame = some Y.env.locals) (tk : Takes Y Wo) (c : Caught Y pins ad gr was st hp cv dv t) (w : Wo cv dv st hp) : Done Y pins ad Dn [] t := by
  have up : ∀ g, HandSPX.HeldZ gr (Y.env :: Y.outer) ad (Zc cv dv) Y.env.locals g → t.heap.UpToSlots g → Y.xe (.ref ad) { t with heap := g } := fun g held u =>
    tk _ _ ⟨ad, gr, was, pins, st, hp, cv, dv, rfl, c.old, c.low, c.grown.trans u, .inr (.inr (stk ▸ held)), c.free, c.world.1, c.world.2, w⟩
  obtain ⟨_, _, _, ob, fv, T, _, _, o1, _, o2, o3, _⟩ := id c.fly
  apply wpAny_handleBy_nil
  unfold PySem.passOn
  apply wpAny_bind
  apply wpAny_field o1 o2 o3
  have go : wpAny (model Y.prog Y.w) Y.A (setFlight (.ref ad) Y.env.frame) (fun _ t' => wpAny (model Y.prog Y.w) Y.A (throw (.ref ad) : Sem Flow) (SP Y pins Dn) Y.xe t') Y.xe t := own ▸ HandSPX.setFlight_upZ c.fly fun g held u => wpAny_throw (up g held u)
  simp only [show (Value.ref T == Value.none) = false from rfl, Bool.false_eq_true, if_false]
  first | exact wpAny_bind go | exact wpAny_bind (wpAny_pure (wpAny_bind go))
theorem done_one {x : Str} {cx : Value} {ts : Addr → Value → Option Addr → TS} {b0 : Stmt} {bs : List Stmt} {p1 p2 : Pos} {more : List ExceptHandler} {yes : Bool} (own : Y.env.frame = some Y.env.locals) (nd : Y.N.Nodup) (at_ : Y.N[j]? = some n) (loc : Y.env.kindOf n = some .local) (hx : Names Y x cx)
    (body : ∀ ob pn, Zc cv dv ob → (∃ fv, ob.data = .fields fv) → PSs (Y.suite ad ((ad, ob) :: pn)) (b0 :: bs) (ts ad cv dv)) (c : Caught Y pins ad gr was st hp cv dv t) (e : PySem.W.exmOne Y.K cv cx = some yes)
    (w : match yes with | true => ts ad cv dv (Dn.bare j) (st.set j (some (.ref ad))) hp | false => Done Y pins ad Dn more t) : Done Y pins ad Dn (.ExceptHandler (some (.Name x p1)) (some n) (b0 :: bs) p2 :: more) t := by
  obtain ⟨ob, z, _, o1, I⟩ := c.inSuite own
  apply wpAny_handleBy_cons _ (by intro q; cases q)
  apply codeAny_handlers_test
  have ask := PySem.W.exm_one (M := model Y.prog Y.w) c.inv.kIn (e := ad) (fun A Q E s k q => wpAny_typeOf_ref (k _ _ o1) (z.1.symm ▸ q)) e
  have named : ∀ {Q0 E0 : Value → Shared → Prop}, Q0 cx t → wpAny (model Y.prog Y.w) (Y.A.mark (some (.ref ad))) (eval (.Name x p1) Y.env) Q0 E0 t := fun {Q0 E0} q => match hx with
    | ⟨g, d, .inl m⟩ => ld_glob (X := Y.suite ad ((ad, ob) :: (Y.pn ++ pins))) I g m q d
    | ⟨g, d, .inr ⟨m, v, nn⟩⟩ => ld_blt (X := Y.suite ad ((ad, ob) :: (Y.pn ++ pins))) I g m v q nn d
  apply named
  apply ask.here
  rcases yes with _ | _
  · exact w
  show codeAny _ _ _ _ _
  apply codeAny_handlers_suite_as
  apply HandSPX.lands_againZ c.fly
  intro g f u
  have c2 := c.step f u
  obtain ⟨ob2, z2, d2, _, I2⟩ := c2.inSuite own
  refine store_ok (X := Y.suite ad ((ad, ob2) :: (Y.pn ++ pins))) (v := .ref ad) (u := .ref ad) I2 nd at_ (.inl loc) rfl ?_ (.inr loc)
  intro t3 I3
  have clean : ∀ {st' : St} {hp' : Hp} {t' : Shared} {R : Shared → Prop}, Inv (Y.suite ad ((ad, ob2) :: (Y.pn ++ pins))) [] st' hp' t' → (∀ t'', Inv Y pins (st'.set j none) hp' t'' → R t'') → wpAny (model Y.prog Y.w) Y.A (do bindName Y.env n .none; unbindBehindTheSuite Y.env n p2) (fun _ t'' => R t'') Y.xe t' :=
    fun I' r => gone_ok (I'.unsuite c.old.ok) nd at_ loc r
  apply wpAny_mono ((body ob2 _ z2 d2).run [] t3 _ hp _ I3 w) _ fun _ _ no => False.elim no
  rintro (_ | _ | _ | v) t4 h
  all_goals first
    | (obtain ⟨_, _, I4, q⟩ := h; exact clean I4 fun t5 I5 => ⟨_, _, I5, q⟩)
    | (obtain ⟨_, _, _, I4, r, q⟩ := h; exact clean I4 fun t5 I5 => ⟨_, _, _, I5, r, q⟩)
inductive ClOk (Y : Cx) (n : Str) : List ExceptHandler → List Cl → Prop
  | nil : ClOk Y n [] []
  | cons {x : Str} {cx : Value} {ts : Addr → Value → Option Addr → TS} {b0 : Stmt} {bs : List Stmt} {p1 p2 : Pos} {hs : List ExceptHandler} {qs : List Cl} : Names Y x cx →
      (∀ ad ob cv dv pn, Zc cv dv ob → (∃ fv, ob.data = .fields fv) → PSs (Y.suite ad ((ad, ob) :: pn)) (b0 :: bs) (ts ad cv dv)) → ClOk Y n hs qs → ClOk Y n (.ExceptHandler (some (.Name x p1)) (some n) (b0 :: bs) p2 :: hs) ((cx, ts) :: qs)
theorem done_all (stk : Y.stack = Y.env :: Y.outer) (own : Y.env.frame = some Y.env.locals) (nd : Y.N.Nodup) (at_ : Y.N[j]? = some n) (loc : Y.env.kindOf n = some .local) (tk : Takes Y Wo) (c : Caught Y pins ad gr was st hp cv dv t) :
    ∀ {hs : List ExceptHandler} {qs : List Cl}, ClOk Y n hs qs → wCl Y.K j Wo Dn qs cv dv st hp → Done Y pins ad Dn hs t
  | _, _, .nil, w => done_none stk own tk c w
  | _, _, .cons hx body more, ⟨yes, e, w⟩ => done_one own nd at_ loc hx (fun ob pn => body ad ob cv dv pn) c e (by
      cases yes with
      | true => exact w ad c.free
      | false => exact done_all stk own nd at_ loc tk c more w)
theorem ps_tryL {bd : List Stmt} {h0 : ExceptHandler} {hs : List ExceptHandler} {qs : List Cl} {pos : Pos} {tb : WX → TS} (stk : Y.stack = Y.env :: Y.outer) (own : Y.env.frame = some Y.env.locals) (nd : Y.N.Nodup) (at_ : Y.N[j]? = some n) (loc : Y.env.kindOf n = some .local) (tk : Takes Y Wo)
    (hb : ∀ W pn xe, Takes (Y.tr pn xe) W → PassesOwn (model Y.prog Y.w) Y.A Y.env xe → PSs (Y.tr pn xe) bd (tb W)) (cl : ClOk Y n (h0 :: hs) qs) : PS Y (.Try bd (h0 :: hs) [] [] pos) fun Dn st hp => tb (wCl Y.K j Wo Dn qs) Dn st hp := by
  constructor
  intro pins t0 st hp Dn I0 w0
  apply wpAny_Try_except
  have catch_ : Takes (Y.tr (Y.pn ++ pins) fun e t1 => wpAny (model Y.prog Y.w) Y.A (noteFrame e Y.env) (fun _ t2 => wpAny (model Y.prog Y.w) Y.A (setFlight e none) (fun _ t3 => wpAny (model Y.prog Y.w) Y.A (handleBy e Y.env (h0 :: hs)) (SP Y pins Dn) Y.xe t3) Y.xe t2) Y.xe t1) (wCl Y.K j Wo Dn qs) := by
    rintro _ t1 ⟨ad, gr, was, _, st1, hp1, cv, dv, rfl, I1, low, grown, sky, free, os, gens, w⟩
    apply Sky.land Zc.steady (I0.ok.frames.trans (congrArg some stk)) own (stk ▸ sky)
    intro g f u
    exact done_all (t := { t1 with heap := g }) stk own nd at_ loc tk ⟨I1.ofTry I0.ok, low, grown.trans u, f, free, os, gens⟩ cl w
  apply wpAny_mono ((hb _ _ _ catch_ PassesOwn.looking).run [] t0 st hp Dn (I0.toTry _) w0) _ fun _ _ h => h
  rintro (_ | _ | _ | v) t1 h
  · obtain ⟨_, _, I1, q⟩ := h; exact wpAny_execs_nil ⟨_, _, I1.ofTry I0.ok, q⟩
  all_goals first
    | (obtain ⟨_, _, I1, q⟩ := h; exact ⟨_, _, I1.ofTry I0.ok, q⟩)
    | (obtain ⟨_, _, _, I1, r, q⟩ := h; exact ⟨_, _, _, I1.ofTry I0.ok, r, q⟩)
end
end L2
namespace Bx
open PySem L2
abbrev HF := (Str → Option Bool) × FS
def hdsF (i : Nat) : List HF → Exc → En → So
  | [], x, e1 => .exc x e1
  | q :: r, x, e1 => match q.1 x.c with
    | some true => if i < e1.sl.length then (q.2 (e1.suite i x)).calm i else .bad
    | some false => hdsF i r x e1
    | none => .bad
/-- try: body / except A as n: .. / except B as n: .. -/
def fTryL (i : Nat) (l : List HF) (body : FS) : FS := fun e => match body e with
  | .exc x e1 => hdsF i l x e1
  | r => r
inductive HdB (X : Cx) (C : Cc) (n : Str) (i : Nat) : List ExceptHandler → List HF → List Cl → Prop
  | nil : HdB X C n i [] [] []
  | cons {x : Str} {c : Value} {Ss : FS} {isA : Str → Option Bool} {b0 : Stmt} {suite : List Stmt} {np pos' : Pos} {hs : List ExceptHandler} {l : List HF} {qs : List Cl} (hc : Names X x c) (hA : ∀ c' b, isA c' = some b → PySem.W.exmOne C.K (.ref (C.ca c')) c = some b)
      (hsu : ∀ (a : Addr) (oe : Obj) (cls : Value) (d : Option Addr) (pn : List (Addr × Obj)), Zc cls d oe → (∃ vs, oe.data = .fields vs) → BSs (X.suite a ((a, oe) :: pn)) (C.su i a cls d) W0 (b0 :: suite) Ss)
      (r : HdB X C n i hs l qs) : HdB X C n i (.ExceptHandler (some (.Name x np)) (some n) (b0 :: suite) pos' :: hs) ((isA, Ss) :: l) ((c, fun a cls d => canS (C.su i a cls d) W0 Ss) :: qs)
section
variable {X : Cx} {C : Cc} {W : WX} {pos : Pos}
theorem HdB.clOk {n : Str} {i : Nat} {hs : List ExceptHandler} {l : List HF} {qs : List Cl} : HdB X C n i hs l qs → ClOk X n hs qs
  | .nil => .nil
  | .cons hc _ hsu r => .cons hc hsu r.clOk
/-- a suite's state, and back -/
theorem Ok.enter {Hs H : Hp} {σ : L2.St} {e : En} {fe : Fp} {P : Addr → Prop} {i : Nat} {ad dd : Addr} {x : Exc} (ok : Ok C Hs H σ e fe f0 P) (ex : ExD C.toGc Hs H dd x) (hp : npin C i) (hi : i < e.sl.length) :
    ∃ fe', Ok (C.su i ad (.ref (C.ca x.c)) (some dd)) Hs H (σ.set i (some (.ref ad))) (e.suite i x) fe' f0 P := by
  obtain ⟨fe', o⟩ := ok.del i
  refine ⟨fe', o.wf, o.sl.any List.length_set fun j d hj => List.getElem?_set_ne fun z => delL_at (e := e) (vs := [i]) (z ▸ List.mem_cons_self) d hj, ?_, ad, dd, rfl, ex⟩
  rintro p (_ | ⟨_, hm⟩)
  · exact List.getElem?_set_self (ok.sl.len ▸ hi)
  · exact (List.getElem?_set_ne (Ne.symm (hp p hm))).trans (ok.pn p hm)
theorem Ok.leave {Hs H : Hp} {σ : L2.St} {e : En} {fe fx : Fp} {P : Addr → Prop} {i : Nat} {ad : Addr} {cl : Value} {dd : Option Addr} (ok : Ok (C.su i ad cl dd) Hs H σ e fe fx P) (hp : npin C i) : ∃ fe', Ok C Hs H (σ.set i none) (e.calm i) fe' fx P := by
  obtain ⟨fe', o⟩ := ok.del i
  exact ⟨fe', o.wf, o.sl.any List.length_set fun j d hj => List.getElem?_set_ne fun z => delL_at (e := e) (vs := [i]) (z ▸ List.mem_cons_self) d hj, fun p hm => (List.getElem?_set_ne (Ne.symm (hp p hm))).trans (ok.pn p (List.mem_cons_of_mem _ hm)), trivial⟩
theorem hds_wish {n : Str} {i : Nat} {P : Addr → Prop} {N : Ends} {Hs H : Hp} {x : Exc} {e1 : En} (hp : npin C i) (hk : X.K = C.K) : ∀ {hs : List ExceptHandler} {l : List HF} {qs : List Cl}, HdB X C n i hs l qs → EndS C W (hdsF i l x e1) Hs H P N →
    ∀ dd σ1 Hs1 H1 fe1, Aft Hs H Hs1 H1 P → Ok C Hs1 H1 σ1 e1 fe1 f0 P → ExD C.toGc Hs1 H1 dd x → wCl X.K i W N qs (.ref (C.ca x.c)) (some dd) σ1 H1
  | _, _, _, .nil, q => q
  | _, _, _, .cons (isA := isA) (Ss := Ss) hc hA hsu r, q => fun dd σ1 Hs1 H1 fe1 a1 ok1 ex1 => by
    unfold hdsF at q
    rcases hcl : isA x.c with _ | (_ | _) <;> simp only [hcl] at q
    · exact q.elim
    · exact ⟨false, hk ▸ hA _ _ hcl, hds_wish hp hk r q dd σ1 Hs1 H1 fe1 a1 ok1 ex1⟩
    · refine ⟨true, hk ▸ hA _ _ hcl, fun ad had => ?_⟩
      by_cases hi : i < e1.sl.length
      rotate_left
      · rw [if_neg hi] at q; exact q.elim
      rw [if_pos hi] at q
      obtain ⟨fe2, ok2⟩ := ok1.enter (ad := ad) ex1 hp hi
      refine ⟨_, Hs1, fe2, P, ok2, ?_⟩
      have q2 := q.shift a1
      generalize Ss (e1.suite i x) = r2 at q2 ⊢
      cases r2 with
      | bad => exact q2.elim
      | exc _ _ => exact q2.elim
      | rt d2 e2 => exact fun v σ' Hs' H' fe' fv a2 ok' rv => let ⟨fe3, ok4⟩ := ok'.leave hp; q2 v _ Hs' H' fe3 fv a2 ok4 rv
      | _ => exact fun σ' Hs' H' fe' a2 ok' => let ⟨fe3, ok4⟩ := ok'.leave hp; q2 _ Hs' H' fe3 a2 ok4
theorem bs_tryL {n : Str} {i : Nat} {body : List Stmt} {h0 : ExceptHandler} {hs : List ExceptHandler} {l : List HF} {qs : List Cl} {Sb : FS} (hst : X.stack = X.env :: X.outer) (hfr : X.env.frame = some X.env.locals) (hnd : X.N.Nodup) (hi : X.N[i]? = some n) (hln : X.env.kindOf n = some .local)
    (tk : Takes X W) (hp : npin C i) (hx : C.xa = none) (hk : X.K = C.K)
    (hb : ∀ (W' : WX) (pn : List (Addr × Obj)) (xe : Value → Shared → Prop), Takes (X.tr pn xe) W' → PassesOwn (model X.prog X.w) X.A X.env xe → BSs (X.tr pn xe) C W' body Sb)
    (hh : HdB X C n i (h0 :: hs) l qs) : BS X C W (.Try body (h0 :: hs) [] [] pos) (fTryL i l Sb) :=
  (ps_tryL hst hfr hnd hi hln tk (tb := fun W' => canS C W' Sb) hb hh.clOk).imp fun N σ H ⟨e, Hs, fe, P, ok, q⟩ => by
    refine ⟨e, Hs, fe, P, ok, ?_⟩
    unfold fTryL at q
    generalize Sb e = r at q ⊢
    cases r with
    | exc x e1 => exact hds_wish hp hk hh q
    | _ => exact q
end
theorem tryL_nx {i : Nat} {l : List HF} {b : FS} {e e1 : En} (h : b e = .nx e1) : fTryL i l b e = .nx e1 := by unfold fTryL; rw [h]
theorem tryL_rt {i : Nat} {l : List HF} {b : FS} {e e1 : En} {d : D} (h : b e = .rt d e1) : fTryL i l b e = .rt d e1 := by unfold fTryL; rw [h]
theorem tryL_exc {i : Nat} {l : List HF} {b : FS} {e e1 : En} {x : Exc} (h : b e = .exc x e1) : fTryL i l b e = hdsF i l x e1 := by unfold fTryL; rw [h]
end Bx

set_option Elab.async false
set_option linter.all false
set_option maxRecDepth 100000
set_option maxHeartbeats 1000000
/-! Walks over an owned list whose items are lent to the loop's name. -/
namespace Bx
open PySem L2
def Cc.pin (C : Cc) (j : Nat) (v : V) : Cc := ⟨C.toGc, (j, v) :: C.pins, C.xa⟩
theorem pin_npin {C : Cc} {i j : Nat} {v : V} (h : npin C i) (n : j ≠ i) : npin (C.pin j v) i := fun p hp => by
  rcases List.mem_cons.mp hp with z | z
  · rw [z]; exact n
  · exact h p z
def En.lend (e : En) (i j : Nat) (d : D) : En := (e.del i).put j d
section
variable {C : Cc} {Hs H Hs' H' : Hp} {σ σ' : L2.St} {e e' : En} {fe fe' fx : Fp} {P : Addr → Prop}
theorem setL_same {α : Type} : ∀ {xs : List α} {i : Nat} {a : α}, xs[i]? = some a → xs.set i a = xs
  | [], _, _, h => by simp at h
  | x :: xs, 0, a, h => by simp at h; subst h; rfl
  | x :: xs, i + 1, a, h => by
    rw [List.set_cons_succ, setL_same (by simpa using h)]
/-- one item of an owned list is lent to a slot; and back -/
theorem Ok.lend {i j k : Nat} {ds : List D} {d : D} {f : Fp} (okk : Ok C Hs H σ e fe f P) (hi : e.sl[i]? = some (some (.nd .lst true ds))) (hd : ds[k]? = some d) (hij : i ≠ j) (hj : j < e.sl.length) (hpi : npin C j) :
    ∃ (p : Addr) (vs : List V) (v : V) (f1 : Fp) (P1 : Addr → Prop), σ[i]? = some (some (.ref p)) ∧ H p = some (.lst vs) ∧ vs.length = ds.length ∧ vs[k]? = some v ∧ (∀ b, P b → P1 b) ∧ P1 p ∧
      Ok ((C.pin i (.ref p)).pin j v) Hs H (σ.set j (some v)) (e.lend i j d) f1 f P1 ∧
      ∀ {Hs' H' : Hp} {σ' : L2.St} {e' : En} {d' : D} {f2 f3 : Fp}, Aft Hs H Hs' H' P1 → Ok ((C.pin i (.ref p)).pin j v) Hs' H' σ' e' f2 f3 P1 → e'.sl[i]? = some none → e'.sl[j]? = some (some d') →
        ∃ f4, Ok C Hs' H' σ' ((e'.del j).put i (.nd .lst true (ds.set k d'))) f4 f3 P ∧ H' p = some (.lst vs) ∧ σ'[i]? = some (some (.ref p)) ∧ σ'[j]? = some (some v) := by
  obtain ⟨u, g1, g2, hu, ru, eg, sl1⟩ := okk.sl.get hi
  cases ru with
  | @own p _ vs _ g _ at_ w n rs e1 =>
  obtain ⟨v, h1, h2, hv, rv, eh, back⟩ := rps_lens rs hd
  obtain ⟨m1, m2, hm, sl2⟩ := sl1.forget j
  have hjl : j < σ.length := by rw [okk.sl.len]; exact hj
  have sl3 : Sls C.toGc Hs H (σ.set j (some v)) (e.lend i j d).sl (fun b => h1 b + m2 b) := by
    have := sl2.put (i := j) (h := fun b => h1 b + m2 b) (by rw [List.getElem?_set_self (by rw [List.length_set]; exact hj)]) rv fun b => rfl
    rw [List.set_set] at this
    exact this
  have tot : ∀ b, fe b = (h1 b + h2 b + if b = p then 1 else 0) + (m1 b + m2 b) := fun b => by rw [eg b, e1 b, eh b, hm b]
  have wf := okk.wf
  refine ⟨p, vs, v, fun b => h1 b + m2 b, fun b => P b ∨ b = p ∨ h2 b ≠ 0, hu, at_, rs.len, hv, fun b hb => .inl hb, .inr (.inl rfl), ⟨⟨wf.sm, fun b => ?_, fun b hb => ?_, fun b hb => ?_, fun b hb => ?_⟩, sl3, fun q hq => ?_, okk.ex⟩, ?_⟩
  · have := wf.one b; have := tot b; show h1 b + m2 b + f b ≤ 1; omega
  · refine wf.own b ?_
    have := tot b; have hb' : h1 b + m2 b + f b ≠ 0 := hb; omega
  · show h1 b + m2 b + f b = 0
    have t := tot b; have o := wf.one b
    rcases hb with hb | hb | hb
    · have := wf.apart b hb; omega
    · rw [if_pos hb] at t; omega
    · omega
  · rcases hb with hb | hb | hb
    · exact wf.live b hb
    · rw [hb]; intro z; rw [show H p = some (.lst vs) from at_] at z; cases z
    · exact (rs.live b (by rw [eh b]; omega)).1
  · rcases List.mem_cons.mp hq with z | z
    · rw [z]; show (σ.set j (some v))[j]? = _; rw [List.getElem?_set_self hjl]
    · rcases List.mem_cons.mp z with z | z
      · rw [z]; show (σ.set j (some v))[i]? = _; rw [List.getElem?_set_ne (Ne.symm hij)]; exact hu
      · rw [List.getElem?_set_ne (Ne.symm (hpi q z))]; exact okk.pn q z
  · intro Hs' H' σ' e' d' f2 f3 af ok' hi' hj'
    have pj : σ'[j]? = some (some v) := ok'.pn (j, v) List.mem_cons_self
    have pi : σ'[i]? = some (some (.ref p)) := ok'.pn (i, .ref p) (List.mem_cons_of_mem _ List.mem_cons_self)
    obtain ⟨w', k1, k2, hw, rw', ek, sl4⟩ := ok'.sl.get hj'
    rw [pj] at hw
    have : v = w' := by injection hw with hw; injection hw
    subst this
    have hp' : H' p = some (.lst vs) := (af.keep p (.inr (.inl rfl))).1.trans at_
    have rn : Rp C.toGc Hs' H' (.ref p) (.nd .lst true (ds.set k d')) (fun b => (k1 b + h2 b) + if b = p then 1 else 0) :=
      .own hp' rfl ((af.keep p (.inr (.inl rfl))).2.trans n) (back af.sh (fun b hb => ⟨(af.keep b (.inr (.inr hb))).1, (af.keep b (.inr (.inr hb))).2.trans (rs.live b (by rw [eh b]; omega)).2⟩) rw') fun b => rfl
    have il : i < e'.sl.length := (List.getElem?_eq_some_iff.mp hi').1
    have sl5 := sl4.put (i := i) (h := fun b => (k1 b + h2 b + if b = p then 1 else 0) + k2 b) (by rw [List.getElem?_set_ne (Ne.symm hij)]; exact hi') rn fun b => rfl
    rw [setL_same pi] at sl5
    have wf' := ok'.wf
    refine ⟨fun b => (k1 b + h2 b + if b = p then 1 else 0) + k2 b, ⟨⟨wf'.sm, fun b => ?_, fun b hb => ?_, fun b hb => ?_, fun b hb => wf'.live b (.inl hb)⟩, sl5, fun q hq => ok'.pn q (List.mem_cons_of_mem _ (List.mem_cons_of_mem _ hq)), ok'.ex⟩, hp', pi, pj⟩
    · show (k1 b + h2 b + if b = p then 1 else 0) + k2 b + f3 b ≤ 1
      have o1 := wf'.one b; have o2 := wf.one b; have t := tot b; have t2 := ek b
      by_cases z : b = p ∨ h2 b ≠ 0
      · have := wf'.apart b (.inr z)
        omega
      · have z1 : ¬ b = p := fun y => z (.inl y)
        have z2 : h2 b = 0 := by
          by_cases y : h2 b = 0
          · exact y
          · exact absurd (.inr y) z
        rw [if_neg z1]; omega
    · have hb' : (k1 b + h2 b + if b = p then 1 else 0) + k2 b + f3 b ≠ 0 := hb
      by_cases z : b = p ∨ h2 b ≠ 0
      · rw [(af.keep b (.inr z)).2]
        refine wf.own b ?_
        have t := tot b
        rcases z with z | z
        · rw [if_pos z] at t; omega
        · omega
      · have z1 : ¬ b = p := fun y => z (.inl y)
        have z2 : h2 b = 0 := by
          by_cases y : h2 b = 0
          · exact y
          · exact absurd (.inr y) z
        rw [if_neg z1] at hb'
        have := ek b
        exact wf'.own b (by show f2 b + f3 b ≠ 0; omega)
    · show (k1 b + h2 b + if b = p then 1 else 0) + k2 b + f3 b = 0
      have a1 := wf'.apart b (.inl hb); have a2 := wf.apart b hb; have t := tot b; have := ek b
      omega
end
/-! ### for x in xs: body, each item lent to x -/
def borL (i j : Nat) (body : FS) : List D → List D → FS
  | _, [], e => .nx e
  | dn, d :: r, e => match body (e.lend i j d) with
    | .nx e1 => (match e1.sl[i]?, e1.sl[j]? with
      | some none, some (some d') => borL i j body (dn ++ [d']) r ((e1.del j).put i (.nd .lst true (dn ++ d' :: r)))
      | _, _ => .bad)
    | _ => .bad
def fForB (i j : Nat) (body : FS) : FS := fun e => match e.sl[i]? with
  | some (some (.nd .lst true ds)) => if i ≠ j ∧ j < e.sl.length then borL i j body [] ds e else .bad
  | _ => .bad
theorem putE_len (e : En) (i : Nat) (d : D) : (e.put i d).sl.length = e.sl.length := List.length_set
theorem delE_len (e : En) (i : Nat) : (e.del i).sl.length = e.sl.length := List.length_set
theorem putE_at {e : En} {i : Nat} {d : D} (h : i < e.sl.length) : (e.put i d).sl[i]? = some (some d) := List.getElem?_set_self h
theorem setL_mid {α : Type} {dn r : List α} {d d' : α} : (dn ++ d :: r).set dn.length d' = dn ++ d' :: r := by
  rw [List.set_append_right _ _ (Nat.le_refl _), Nat.sub_self]; rfl
theorem ownL_at {G : Gc} {Hs H : Hp} {u : V} {ds : List D} {f : Fp} (r : Rp G Hs H u (.nd .lst true ds) f) : ∃ p vs, u = .ref p ∧ H p = some (.lst vs) ∧ vs.length = ds.length := by
  cases r with
  | own at_ w n rs e1 => exact ⟨_, _, rfl, at_, rs.len⟩
section
variable {X : Cx} {C : Cc} {W : WX} {pos pos2 p1 p2 : Pos}
theorem bs_forB {i j : Nat} {x : Expr} {y : Str} {body : List Stmt} {S : FS} (hp : PassesOwn (model X.prog X.w) X.A X.env X.xe) (hc : X.calm = true) (hk : X.K = C.K) (hx : PE X x (tVar i)) (hg : PG X (.Name y p2) (gName j)) (hn : npin C j)
    (hb : ∀ (p : Addr) (v : V), BSs X ((C.pin i (.ref p)).pin j v) W0 body S) (hf : ∀ z, foldedSetIterable x X.env z = pure z) :
    BS X C W (.For (.Name y p2) x body [] pos) (fForB i j S) :=
  (ps_for hp hc (pi_list hx) hg (tb := fun D σ H => ∃ p v, canS ((C.pin i (.ref p)).pin j v) W0 S D σ H) ⟨fun pins s σ H D I ⟨p, v, h⟩ => (hb p v).run pins s σ H D I h⟩ hf).imp fun N σ H ⟨e, Hs, fe, P, ok, q⟩ => by
    unfold fForB at q
    split at q
    rotate_left
    · exact q.elim
    rename_i ds hds
    by_cases hij : i ≠ j ∧ j < e.sl.length
    rotate_left
    · rw [if_neg hij] at q; exact q.elim
    rw [if_pos hij] at q
    obtain ⟨u, g1, g2, hu, ru, eg, sl1⟩ := ok.sl.get hds
    obtain ⟨p, vs, rfl, hH, hvl⟩ := ownL_at ru
    refine ⟨.ref p, hu, p, rfl, ⟨vs, by rw [hk]; exact SqL.of hH⟩, fun k m σ' H' => k + m = ds.length ∧ ∃ dn e' Hs' fe', dn.length = k ∧ Aft Hs H Hs' H' P ∧ Ok C Hs' H' σ' e' fe' f0 P ∧ e'.sl[i]? = some (some (.nd .lst true (dn ++ ds.drop k))) ∧ j < e'.sl.length ∧
      σ'[i]? = some (some (.ref p)) ∧ H' p = some (.lst vs) ∧ EndS C W (borL i j S dn (ds.drop k) e') Hs' H' P N, ⟨ds.length, by omega, [], e, Hs, fe, rfl, Aft.refl _ _ _, ok, by simpa using hds, hij.2, hu, hH, q⟩, ?_⟩
    rintro k m σ' H' ⟨hm, dn, e', Hs', fe', hdn, a2, ok2, hi2, hj2, hs2, hH2, q2⟩
    by_cases hlt : k < ds.length
    · obtain ⟨d, hd⟩ : ∃ d, ds[k]? = some d := ⟨_, List.getElem?_eq_getElem hlt⟩
      have ed : ds.drop k = d :: ds.drop (k + 1) := by
        rw [List.drop_eq_getElem_cons hlt]
        rw [List.getElem?_eq_getElem hlt] at hd
        rw [Option.some.inj hd]
      rw [ed] at q2 hi2
      obtain ⟨p', vs', v, f1, P1, hu', hH', hl', hv', hP, hpp, okL, back⟩ := ok2.lend (k := k) (d := d) hi2 (by rw [← hdn, List.getElem?_append_right (Nat.le_refl _), Nat.sub_self]; rfl) hij.1 hj2 hn
      rw [hs2] at hu'
      cases hu'
      rw [hH2] at hH'
      cases hH'
      refine .inr ⟨⟨vs, v, by rw [hk]; exact SqL.of hH2, hv'⟩, fun σ'' H'' => k + 1 + (m - 1) = ds.length ∧ ∃ dn e' Hs' fe', dn.length = k + 1 ∧ Aft Hs H Hs' H'' P ∧ Ok C Hs' H'' σ'' e' fe' f0 P ∧ e'.sl[i]? = some (some (.nd .lst true (dn ++ ds.drop (k + 1)))) ∧ j < e'.sl.length ∧
        σ''[i]? = some (some (.ref p)) ∧ H'' p = some (.lst vs) ∧ EndS C W (borL i j S dn (ds.drop (k + 1)) e') Hs' H'' P N, fun σ'' H'' h => ⟨m - 1, by omega, h⟩, fun z H'' y => ?_⟩
      obtain ⟨rfl, hz⟩ := y
      have hz2 := hz vs (by rw [hk]; exact SqL.of hH2)
      rw [hv'] at hz2
      cases hz2
      refine ⟨p, v, e'.lend i j d, Hs', f1, P1, okL, ?_⟩
      unfold borL at q2
      generalize S (e'.lend i j d) = r at q2 ⊢
      cases r with
      | nx e1 =>
        intro σ7 Hs7 H7 fe7 a7 ok7
        dsimp only at q2
        split at q2
        · rename_i d' h1 h2
          obtain ⟨f4, ok8, h3, h4, h5⟩ := back a7 ok7 h1 h2
          have e5 : (dn ++ d :: ds.drop (k + 1)).set k d' = dn ++ d' :: ds.drop (k + 1) := by rw [← hdn]; exact setL_mid
          rw [e5] at ok8
          have il : i < e1.sl.length := (List.getElem?_eq_some_iff.mp h1).1
          have jl : j < e1.sl.length := (List.getElem?_eq_some_iff.mp h2).1
          refine ⟨by omega, dn ++ [d'], _, Hs7, f4, by simp [hdn], a2.trans (a7.weak hP), ok8, ?_, by rw [putE_len, delE_len]; exact jl, h4, h3, q2.shift (a7.weak hP)⟩
          rw [putE_at (by rw [delE_len]; exact il), List.append_assoc]; rfl
        · exact q2.elim
      | bad => exact q2.elim
      | ct e1 => exact q2.elim
      | bk e1 => exact q2.elim
      | rt d1 e1 => exact q2.elim
      | exc x1 e1 => exact q2.elim
    · have ei : k = ds.length := by omega
      subst ei
      rw [List.drop_length] at q2
      exact .inl ⟨⟨vs, by rw [hk]; exact SqL.of hH2, by omega⟩, q2 σ' Hs' H' fe' (Aft.refl _ _ _) ok2⟩
end
/-! ### [el for x in xs], each item lent to x -/
def lcB (i j : Nat) (el : FE) : List D → List D → List D → En → Rs (List D)
  | _, [], acc, e => .ok acc e
  | dn, d :: r, acc, e => match el (e.lend i j d) with
    | .ok y e1 => (match e1.sl[i]?, e1.sl[j]? with
      | some none, some (some d') => if acc.length < lim then lcB i j el (dn ++ [d']) r (acc ++ [y]) ((e1.del j).put i (.nd .lst true (dn ++ d' :: r))) else .bad
      | _, _ => .bad)
    | _ => .bad
def eLcB (i j : Nat) (el : FE) : FE := fun e => match e.sl[i]? with
  | some (some (.nd .lst true ds)) => if i ≠ j ∧ j < e.sl.length then (lcB i j el [] ds [] (e.del j)).bind fun acc e2 => .ok (.nd .lst true acc) e2 else .bad
  | _ => .bad
structure LbSt (C : Cc) (W : WX) (i j : Nat) (el : FE) (ds : List D) (p : Addr) (vs : List V) (σ : L2.St) (Hs1 H1 : Hp) (P : Addr → Prop) (Dd : Addr) (Z : List D → En → Prop) (k : Nat) (H : Hp) : Prop where
  ex : ∃ (dn acc : List D) (e : En) (Hs : Hp) (fe fa : Fp) (va : List V), dn.length = k ∧ Aft Hs1 H1 Hs H P ∧ Ok C Hs H (wipe σ [j]) (e.del j) fe (fun b => fa b + if b = Dd then 1 else 0) P ∧ H Dd = some (.lst va) ∧ Rps C.toGc Hs H va acc fa ∧
    (e.del j).sl[i]? = some (some (.nd .lst true (dn ++ ds.drop k))) ∧ j < e.sl.length ∧ H p = some (.lst vs) ∧ EndZ C W (lcB i j el dn (ds.drop k) acc (e.del j)) Hs H P σ Z
theorem delE_delE (e : En) (i : Nat) : (e.del i).del i = e.del i := by
  unfold En.del
  rw [List.set_set]
theorem EndZ.shift2 {α : Type} {C : Cc} {W : WX} {r : Rs α} {Hs H Hs' H' : Hp} {P : Addr → Prop} {σ : L2.St} {Z : α → En → Prop} (h : EndZ C W r Hs H P σ Z) (a : Aft Hs H Hs' H' P) : EndZ C W r Hs' H' P σ Z := by
  cases r with
  | bad => exact h
  | ok d e' => exact h
  | exc x e' => exact XcK.shift h a
theorem lb_main {C : Cc} {W : WX} {i j : Nat} {el : FE} {ds : List D} {p : Addr} {vs : List V} {σ : L2.St} {Hs1 H1 : Hp} {P : Addr → Prop} {Dd : Addr} {Z : List D → En → Prop} {QD : Hp → Prop} (hij : i ≠ j) (hv : npin C j) (hp : σ[i]? = some (some (.ref p))) (hl : vs.length = ds.length)
    (st : LbSt C W i j el ds p vs σ Hs1 H1 P Dd Z 0 H1)
    (fin : ∀ (acc : List D) (e : En) (Hs H : Hp) (fe fa : Fp) (va : List V), Aft Hs1 H1 Hs H P → Ok C Hs H (wipe σ [j]) (e.del j) fe (fun b => fa b + if b = Dd then 1 else 0) P → H Dd = some (.lst va) → Rps C.toGc Hs H va acc fa → Z acc (e.del j) → QD H) :
    ∃ Wn : Nat → Nat → Hp → Prop, (∃ m, Wn 0 m H1) ∧ ∀ k m H, Wn k m H →
      ((Itl C.K p).stop k H ∧ QD H) ∨ ((Itl C.K p).go k H ∧ ∃ Nx : Hp → Prop, (∀ H', Nx H' → ∃ m', m' < m ∧ Wn (k + 1) m' H') ∧ ∀ x H', (Itl C.K p).yld k H x H' → gName j x (wipe σ [j]) H' fun σ2 H2 => wipe σ2 [j] = wipe σ [j] ∧ tYes σ2 H2 fun b H3 =>
        if b = true then (∃ p v, canE ((C.pin i (.ref p)).pin j v) W0 el σ2 H3 fun y H4 => ∃ acc, H4 Dd = some (.lst acc) ∧ acc.length < sizeLine ∧ Nx (upd H4 Dd (.lst (acc ++ [y])))) else Nx H3) := by
  refine ⟨fun k m H => k + m = ds.length ∧ LbSt C W i j el ds p vs σ Hs1 H1 P Dd Z k H, ⟨ds.length, by omega, st⟩, ?_⟩
  rintro k m H ⟨hm, ⟨dn, acc, e, Hs, fe, fa, va, hdn, a2, ok2, hD, ra, hi2, hj2, hH2, q2⟩⟩
  by_cases hlt : k < ds.length
  · obtain ⟨d, hd⟩ : ∃ d, ds[k]? = some d := ⟨_, List.getElem?_eq_getElem hlt⟩
    have ed : ds.drop k = d :: ds.drop (k + 1) := by
      rw [List.drop_eq_getElem_cons hlt]
      rw [List.getElem?_eq_getElem hlt] at hd
      rw [Option.some.inj hd]
    rw [ed] at q2 hi2
    have hR : Held (fun Hs' H' => H' Dd = some (.lst va) ∧ Rps C.toGc Hs' H' va acc fa) (fun b => fa b + if b = Dd then 1 else 0) Hs H :=
      ⟨⟨hD, ra⟩, fun Hs' H' s k => ⟨(k Dd (by rw [if_pos rfl]; omega)).1.trans hD, ra.mono s fun b hb => k b (by omega)⟩, fun b hb => by
        by_cases z : b = Dd
        · rw [z, hD]; intro z; cases z
        · rw [if_neg z] at hb; exact (ra.live b (by omega)).1⟩
    have okH := ok2.holdR hR
    obtain ⟨p', vs', v, f1, P1, hu', hH', hl', hv', hP, hpp, okL, back⟩ := okH.lend (k := k) (d := d) hi2 (by rw [← hdn, List.getElem?_append_right (Nat.le_refl _), Nat.sub_self]; rfl) hij (by rw [delE_len]; exact hj2) hv
    have hwi : (wipe σ [j])[i]? = some (some (.ref p)) := by rw [wipe_out (by simp [hij])]; exact hp
    rw [hwi] at hu'
    cases hu'
    rw [hH2] at hH'
    cases hH'
    refine .inr ⟨⟨vs, v, SqL.of hH2, hv'⟩, fun H' => k + 1 + (m - 1) = ds.length ∧ LbSt C W i j el ds p vs σ Hs1 H1 P Dd Z (k + 1) H', fun H' h => ⟨m - 1, by omega, h⟩, fun z H' y => ?_⟩
    obtain ⟨rfl, hz⟩ := y
    have hz2 := hz vs (SqL.of hH2)
    rw [hv'] at hz2
    cases hz2
    refine ⟨by simp [wipe, List.set_set], ?_⟩
    unfold tYes
    simp only [if_true]
    refine ⟨p, v, (e.del j).lend i j d, Hs, f1, P1, okL, ?_⟩
    unfold lcB at q2
    generalize el ((e.del j).lend i j d) = r at q2 ⊢
    cases r with
    | bad => exact q2.elim
    | exc x1 e1 => exact q2.elim
    | ok y e1 =>
      intro v8 Hs8 H8 fe8 fv8 a8 ok8 r8
      dsimp only at q2
      split at q2
      rotate_left
      · exact q2.elim
      rename_i d' h1 h2
      by_cases hl : acc.length < lim
      rotate_left
      · rw [if_neg hl] at q2; exact q2.elim
      rw [if_pos hl] at q2
      obtain ⟨f4, ok9, h3, h4, h5⟩ := back a8 ok8 h1 h2
      have e5 : (dn ++ d :: ds.drop (k + 1)).set k d' = dn ++ d' :: ds.drop (k + 1) := by rw [← hdn]; exact setL_mid
      rw [e5] at ok9
      have af8 := a8.weak hP
      have hold8 := hR.on ok2 af8
      have il : i < e1.sl.length := (List.getElem?_eq_some_iff.mp h1).1
      have jl : j < e1.sl.length := (List.getElem?_eq_some_iff.mp h2).1
      refine ⟨va, hold8.1, by rw [ra.len]; exact lim_lt (Nat.le_of_lt hl), ?_⟩
      have okb : Ok C Hs8 H8 ((wipe σ [j]).set j (some v)) ((e1.del j).put i (.nd .lst true (dn ++ d' :: ds.drop (k + 1)))) f4 (fun b => (fa b + if b = Dd then 1 else 0) + fv8 b) P := ok9.back (fun b => by have := ok2.wf.one b; omega) (fun b hb => by have := ok2.wf.apart b hb; omega) (fun b hb => ok2.wf.own b (by omega)) af8
      have nD : Hs8 Dd = none := okb.wf.own Dd (by rw [if_pos rfl]; omega)
      have onD := okb.wf.one Dd
      rw [if_pos rfl] at onD
      have ne : ∀ b, (f4 b ≠ 0 ∨ fa b ≠ 0 ∨ fv8 b ≠ 0) → b ≠ Dd := fun b hb z => by subst z; omega
      have up : ∀ b, b ≠ Dd → (upd H8 Dd (.lst (va ++ [v8]))) b = H8 b := fun b hb => upd_ne hb
      have pD : p ≠ Dd := fun z => by
        rw [z] at h3 h4
        have g := okb.sl.get (i := i) (d := .nd .lst true (dn ++ d' :: ds.drop (k + 1))) (putE_at (by rw [delE_len]; exact il))
        obtain ⟨u, g1, g2, gu, gr, ge, _⟩ := g
        rw [h4] at gu
        cases gu
        cases gr with
        | own at_ w n rs ee =>
          have t1 := ge Dd; have t2 := ee Dd
          rw [if_pos rfl] at t2
          omega
      have afU : Aft Hs8 H8 Hs8 (upd H8 Dd (.lst (va ++ [v8]))) P := ⟨Same.refl _, fun b hb => ⟨up b fun z => by have := okb.wf.apart b hb; rw [if_pos z] at this; omega, rfl⟩, fun b hb => by
        by_cases z : b = Dd
        · rw [z, upd_same] at hb; cases hb
        · rw [up b z] at hb; exact hb⟩
      have smU : Sm Hs8 (upd H8 Dd (.lst (va ++ [v8]))) := fun a u ha => by
        rw [up a fun z => by rw [z, nD] at ha; cases ha]; exact okb.wf.sm a u ha
      have keep : ∀ {f : Fp}, (∀ b, f b ≠ 0 → b ≠ Dd) → (∀ b, f b ≠ 0 → Hs8 b = none) → ∀ b, f b ≠ 0 → (upd H8 Dd (.lst (va ++ [v8]))) b = H8 b ∧ Hs8 b = none := fun h1 h2 b hb => ⟨up b (h1 b hb), h2 b hb⟩
      have okU : Ok C Hs8 (upd H8 Dd (.lst (va ++ [v8]))) ((wipe σ [j]).set j (some v)) ((e1.del j).put i (.nd .lst true (dn ++ d' :: ds.drop (k + 1)))) f4 (fun b => (fa b + fv8 b) + if b = Dd then 1 else 0) P :=
        ⟨⟨smU, fun b => by have := okb.wf.one b; omega, fun b hb => okb.wf.own b (by omega), fun b hb => by have := okb.wf.apart b hb; omega, fun b hb z => okb.wf.live b hb (afU.mono b z)⟩,
        okb.sl.mono (Same.refl _) (keep (fun b hb => ne b (.inl hb)) fun b hb => okb.wf.own b (by omega)), okb.pn, okb.ex.mono (Same.refl _)⟩
      have ee : ((e1.del j).put i (.nd .lst true (dn ++ d' :: ds.drop (k + 1)))).del j = (e1.del j).put i (.nd .lst true (dn ++ d' :: ds.drop (k + 1))) := by
        unfold En.del En.put
        simp only
        rw [List.set_comm _ _ hij, List.set_set]
      refine ⟨by omega, ⟨dn ++ [d'], acc ++ [y], (e1.del j).put i (.nd .lst true (dn ++ d' :: ds.drop (k + 1))), Hs8, f4, fun b => fa b + fv8 b, va ++ [v8], by simp [hdn], a2.trans ((af8.weak fun b hb => .inl hb).trans afU), ?_, upd_same, ?_, ?_, by rw [putE_len, delE_len]; exact jl, (up p pD).trans h3, ?_⟩⟩
      · rw [ee]
        refine okU.frame (by rw [List.length_set]) (fun q d hq => ?_) fun q hq => ?_
        · by_cases z : q = j
          · exfalso
            rw [z] at hq
            unfold En.put En.del at hq
            simp only at hq
            rw [List.getElem?_set_ne hij, List.getElem?_set_self jl] at hq
            cases hq
          · rw [List.getElem?_set_ne (Ne.symm z)]
        · rw [List.getElem?_set_ne (Ne.symm (hv q hq))]
      · exact Rps.app (hold8.2.mono (Same.refl _) (keep (fun b hb => ne b (.inr (.inl hb))) fun b hb => okb.wf.own b (by omega))) (.cons (r8.mono (Same.refl _) (keep (fun b hb => ne b (.inr (.inr hb))) fun b hb => okb.wf.own b (by omega))) (.nil (f := f0) fun _ => rfl) (h := fv8) fun b => rfl) fun b => rfl
      · rw [ee, putE_at (by rw [delE_len]; exact il), List.append_assoc]; rfl
      · rw [ee]; exact q2.shift2 ((af8.weak fun b hb => .inl hb).trans afU)
  · have ei : k = ds.length := by omega
    subst ei
    rw [List.drop_length] at q2
    exact .inl ⟨⟨vs, SqL.of hH2, by omega⟩, fin acc e Hs H fe fa va a2 ok2 hD ra q2⟩
theorem lb_read {X : Cx} {C : Cc} {W : WX} {i j : Nat} {el : FE} (hk : X.K = C.K) (hv : npin C j) {σ : L2.St} {H : Hp} {Q : VK} (h : canE C W (eLcB i j el) σ H Q) :
    tLc (iList X.K (tVar i)) (gName j) tYes (fun σ H Q => ∃ p v, canE ((C.pin i (.ref p)).pin j v) W0 el σ H Q) [j] σ H Q := by
  obtain ⟨e, Hs, fe, P, ok, q⟩ := h
  unfold eLcB at q
  split at q
  rotate_left
  · exact q.elim
  rename_i ds hds
  by_cases hij : i ≠ j ∧ j < e.sl.length
  rotate_left
  · rw [if_neg hij] at q; exact q.elim
  rw [if_pos hij] at q
  obtain ⟨u, g1, g2, hu, ru, eg, sl1⟩ := ok.sl.get hds
  obtain ⟨p, vs, rfl, hH, hvl⟩ := ownL_at ru
  refine ⟨.ref p, hu, p, rfl, ⟨vs, by rw [hk]; exact SqL.of hH⟩, fun Dd hD => ?_⟩
  obtain ⟨fe2, ok2⟩ := ok.del j
  have ok3 := Ok.wipe (vs := [j]) (fun p hp z => hv p hp (List.mem_singleton.mp z)) (show Ok C Hs H σ (Bx.delL e [j]) fe2 f0 P from ok2)
  have n := New.obj (o := .lst []) ok3.sm hD
  have ok5 : Ok C Hs (upd H Dd (.lst [])) (wipe σ [j]) (e.del j) fe2 (fun b => f0 b + if b = Dd then 1 else 0) P := ok3.new n fun b hb => absurd rfl hb
  have af : Aft Hs H Hs (upd H Dd (.lst [])) P := n.aft ok3
  have pD : p ≠ Dd := fun z => by rw [z, hD] at hH; cases hH
  rw [hk]
  refine lb_main (W := W) (el := el) (ds := ds) (vs := vs) (P := P) (Hs1 := Hs) (Z := fun acc e2 => EndE C W (.ok (.nd .lst true acc) e2) Hs (upd H Dd (.lst [])) P σ Q) hij.1 hv hu hvl ⟨[], [], e, Hs, fe2, f0, [], rfl, Aft.refl _ _ _, ok5, upd_same, .nil fun _ => rfl, ?_, hij.2, (upd_ne pD).trans hH, ?_⟩ ?_
  · show ((e.sl.set j none)[i]?) = _
    rw [List.getElem?_set_ne (Ne.symm hij.1)]
    simpa using hds
  · rw [List.drop_zero]
    have q2 := q.shift af
    cases hr : lcB i j el [] ds [] (e.del j) with
    | bad => rw [hr] at q2; exact q2
    | ok acc e2 => rw [hr] at q2; exact q2
    | exc x e2 => rw [hr] at q2; exact fun dd H2s H2 fe' b ok ex => q2 dd H2s H2 fe' b ok ex
  · intro acc e2 Hs2 H2 fe2 fa va a2 ok2 hl ra z
    refine z (.ref Dd) Hs2 H2 fe2 (fun b => fa b + if b = Dd then 1 else 0) a2 (Ok.unwipe (vs := [j]) (e := e2) (fun p hp z => hv p hp (List.mem_singleton.mp z)) ok2) ?_
    exact .own hl rfl (ok2.wf.own Dd (by rw [if_pos rfl]; omega)) ra fun b => rfl
section
variable {X : Cx} {C : Cc} {W : WX} {pos p2 : Pos} {x elt : Expr} {el : FE}
theorem bs_setLcB {i j k : Nat} {y z : Str} {py spos : Pos} {scope : Scope} (hc : X.calm = true) (hN : X.N.Nodup) (hk : X.K = C.K) (hy : X.N[k]? = some y) (hyl : X.env.scope.names.lookup y = some .local) (hp : npin C k) (hv : npin C j)
    (hsw : swapsWith (.ListComp elt [⟨.Name z p2, x, [], 0⟩] scope pos) (some (.Name y py)) spos.line X.env = pure true) (hx : PE X x (tVar i)) (ok : BlkOk X.N X.env.scope scope [(z, j)])
    (hg : ∀ (s : Shared) (H : Hp) (Ca : Addr) (cl : List (Str × Addr)) (fp : List Addr), PG (X.blk s H scope (compEnvC scope cl Ca X.env) fp) (.Name z p2) (gName j))
    (he : ∀ (p : Addr) (v : V) (s : Shared) (H : Hp) (Ca : Addr) (cl : List (Str × Addr)) (fp : List Addr), BE (X.blk s H scope (compEnvC scope cl Ca X.env) fp) ((C.pin i (.ref p)).pin j v) W0 elt el) (hf : ∀ u, foldedSetIterable x X.env u = pure u) :
    BS X C W (.Assign [.Name y py] (.ListComp elt [⟨.Name z p2, x, [], 0⟩] scope pos) spos) (fAsg (gN k) (eLcB i j el)) :=
  (ps_setLc hc hN hy hyl hsw (pi_list hx) ok hg (fun _ _ _ _ _ => pts_nil) (te := fun σ H Q => ∃ p v, canE ((C.pin i (.ref p)).pin j v) W0 el σ H Q) (fun s H Ca cl fp => ⟨fun pins s2 σ H2 Q I ⟨p, v, h⟩ => (he p v s H Ca cl fp).run pins s2 σ H2 Q I h⟩) hf).imp fun N σ H ⟨e, Hs, fe, P, ok, q⟩ => by
    refine lb_read (X := X) (W := W) hk hv (firstE ok (q.bind σ) fun d e1 v Hs1 H1 fe1 fv1 a1 ok1 r1 q1 => ?_)
    unfold gN at q1
    by_cases hi : k < e1.sl.length
    · rw [if_pos hi] at q1
      obtain ⟨fe', ok'⟩ := (ok1.fps (fun _ => rfl) (fx' := fun b => fv1 b + f0 b) fun _ => rfl).put r1 hi hp
      exact q1 _ Hs1 H1 fe' a1 ok'
    · rw [if_neg hi] at q1; exact q1.elim
end
/-! ### list(x), x looked at -/
def eListV (i : Nat) : FE := fun e => match e.sl[i]? with
  | some (some d) => (match d.seq with
    | some (_, xs) => if xs.all D.isF then .ok (.nd .lst true xs) e else .bad
    | none => .bad)
  | _ => .bad
theorem rps_isF {G : Gc} {Hs H : Hp} : ∀ {vs : List V} {xs : List D} {f : Fp}, Rps G Hs H vs xs f → xs.all D.isF = true → ∀ b, f b = 0
  | _, _, _, .nil z, _ => z
  | _, _, _, .cons r rs e, h => fun b => by
    rw [List.all_cons, Bool.and_eq_true] at h
    rw [e b, r.isF0 h.1 b, rps_isF rs h.2 b]
section
variable {X : Cx} {C : Cc} {W : WX} {a x : Expr}
theorem be_listV {i : Nat} (hk : X.K = C.K) (hp : ∀ t, PA X [a] t → PE X x (tCB (rListA X.K) t)) (ha : PE X a (tVar i)) (hst : starEach [a] X.env = [(false, eval a X.env)]) : BE X C W x (eListV i) :=
  (hp _ (pa_cons ha pa_nil hst)).imp fun σ H Q ⟨e, Hs, fe, P, ok, q⟩ => by
    unfold eListV at q
    split at q
    rotate_left
    · exact q.elim
    rename_i d hd
    cases hs : d.seq with
    | none => rw [hs] at q; exact q.elim
    | some bx =>
      obtain ⟨b, xs⟩ := bx
      rw [hs] at q
      dsimp only at q
      by_cases hF : xs.all D.isF = true
      rotate_left
      · rw [if_neg hF] at q; exact q.elim
      rw [if_pos hF] at q
      obtain ⟨v, f1, f2, e1, r1, _⟩ := ok.sl.get hd
      obtain ⟨p, ws, g, rfl, h1, h2, rs, le⟩ := r1.seq ok.sm hs
      refine ⟨.ref p, e1, p, ws, rfl, ?_, fun l hl => ?_⟩
      · rw [hk]
        cases b
        · exact .inr (h2 rfl)
        · exact .inl (h1 rfl)
      · exact resLst (G := C.toGc) ok.sm (fun v Hs5 H5 fv n rz => q v Hs5 H5 fe fv (n.aft ok) ((ok.new n fun _ h => absurd rfl h).fps (fun _ => rfl) fun _ => (Nat.zero_add _).symm) rz) (rs.fp fun b => (rps_isF rs hF b).symm) hl
end
end Bx

set_option Elab.async false
set_option linter.all false
set_option maxRecDepth 100000
/-! The end of a proof. -/
namespace Bx
open PySem L2 PyProof.Rows
def spLaw (K : PySem.W.Frag) : Sp := fun vs H Q _ => ∃ (a : Addr) (ns : List Int), vs = [.ref a] ∧ SqL K H a (ns.map V.int) ∧ ns.length ≤ 63 ∧ (∀ z ∈ ns, Builtin.Int.intBits z ≤ 1048576) ∧ ∀ H', Q (.bl true) H'
/-- what the plain law has to show -/
def Keeps (F : List D → CR) : Prop := ∀ ns : List Int, ns.length ≤ 63 → (∀ z ∈ ns, Builtin.Int.intBits z ≤ 1048576) → ∃ os, F [.nd .wl false (ns.map D.int)] = .ok (.bl true) os
theorem law_fn {P : Program} {w : World} {K : PySem.W.Frag} {mg : Str → Option Value} {base : Heap} {CX : CXT} {k : Nat} {f : Addr} {fd : FuncData} {ps : List Str} {ca : Str → Addr} {F : List D → CR} (hF : Keeps F) (G : FnOk P w K mg base CX k f fd ps (spD ⟨K, ca⟩ 1 F)) :
    FnOk P w K mg base CX k f fd ps (spLaw K) := G.imp fun vs H Q E h => by
  obtain ⟨a, ns, rfl, hS, hl, hb, q⟩ := h
  obtain ⟨os, e⟩ := hF ns hl hb
  have ri : ∀ ns : List Int, Rps ⟨K, ca⟩ H H (ns.map V.int) (ns.map D.int) f0 := fun ns => by
    induction ns with
    | nil => exact .nil fun _ => rfl
    | cons n ns ih => exact .cons (r_int n) ih fun _ => rfl
  refine ⟨rfl, [.nd .wl false (ns.map D.int)], H, f0, fun _ => False, ⟨fun a o h => .inl h, fun b => Nat.zero_le _, fun b hb => absurd rfl hb, fun b hb => hb.elim, fun b hb => hb.elim⟩, .cons (.sh hS (ri ns) fun _ => rfl) (.nil (f := f0) fun _ => rfl) fun _ => rfl, ?_⟩
  rw [e]
  exact fun v Hs' H' fv fo _ _ rv _ => by rw [rv.toB]; exact q _
theorem walk {l : PySem.W.OpenLaw} {k : Nat} {q : Program} {loose : List Str} {XP : (Str → Option Value) → Heap → Prop} {YP : World → Heap → Prop} {d : DefRec} {K : Params → PySem.W.Frag} (hn : l.most = some 63) (hdf : d.params.defaults = []) (hr : Room k callerA)
    (hY : ∀ (w : World) (h : Heap), YP w h → (K w.params).In h)
    (F : ∀ (w : World) (mg : Str → Option Value) (fa : Addr) (h : Heap), (K w.params).In h → h.Ns mainGlobals mg → mg d.name = some (.ref fa) →
      ∃ fd : FuncData, (∀ (s : Shared) (u : Value), BindsTo s fd ⟨[u], []⟩ [("script", u)]) ∧ ∀ base : Heap, (K w.params).In base → base.Ns mainGlobals mg → FnOk l.prog w (K w.params) mg base (L2.CX l.prog w) k fa fd ["script"] (spLaw (K w.params))) :
    PySem.W.WalkO q loose XP YP l.row.toRowW d [] (fun f vs => PySem.call f vs) :=
  L2.walk_ofB (n := 63) (k := k) (x := "script") (CX := fun w => L2.CX l.prog w) (sp := fun w => spLaw (K w.params)) hn (by decide) hdf hr hY F (fun _ _ a ns hl hb _ hS => ⟨a, ns, rfl, hS, hl, hb, fun _ => rfl⟩)
    fun _ _ _ _ _ z => by obtain ⟨_, _, _, _, _, _, _, _, _, _, _, _, z⟩ := z; exact z
/-- an error of the class at S is what «except S» names -/
theorem exm_of {K : PySem.W.Frag} {C S : Addr} {b : Bool} (h1 : PySem.W.subIn K (.ref S) (.type "BaseException") = some true) (h2 : PySem.W.isClsIn K S = true) (h3 : PySem.W.typeIn K (.ref S) = some (.type "type")) (h4 : PySem.W.subIn K (.ref C) (.ref S) = some b) :
    PySem.W.exmOne K (.ref C) (.ref S) = some b := by
  have e1 : (PySem.W.subIn K (.ref S) (.type "BaseException") == some true) = true := by rw [h1] <;> rfl
  have e2 : ((PySem.W.clsIn K S).isSome && PySem.W.typeIn K (.ref S) == some (.type "type")) = true := by
    have h2' : (PySem.W.clsIn K S).isSome = true := h2
    rw [h2', h3] <;> rfl
  show (if (PySem.W.subIn K (.ref S) (.type "BaseException") == some true) = true then (if ((PySem.W.clsIn K S).isSome && PySem.W.typeIn K (.ref S) == some (.type "type")) = true then PySem.W.subIn K (.ref C) (.ref S) else none) else none) = some b
  rw [if_pos e1, if_pos e2]
  exact h4
end Bx

set_option Elab.async false
set_option linter.all false
set_option maxRecDepth 100000
/-! Evaluation of the plain functions. -/
namespace Bx
open PySem L2
@[simp] theorem rngA1_ok {j : Int} (h1 : -4611686018427387904 < j) (h2 : j < 4611686018427387904) : rngA1 [.int j] = some (rngD 0 j.toNat) := if_pos (by omega)
@[simp] theorem rngA2_ok {i j : Int} (h1 : -4611686018427387904 < i) (h2 : i < 4611686018427387904) (h3 : -4611686018427387904 < j) (h4 : j < 4611686018427387904) : rngA2 [.int i, .int j] = some (rngD i (j - i).toNat) := if_pos ⟨by omega, by omega⟩
section
variable {α β : Type} {e e1 : En} {x : Exc}
@[simp] theorem Rs.bind_ok {a : α} {k : α → En → Rs β} : (Rs.ok a e).bind k = k a e := (rfl)
@[simp] theorem Rs.bind_exc {k : α → En → Rs β} : (Rs.exc x e).bind k = .exc x e := (rfl)
@[simp] theorem Rs.toS_ok {a : α} {k : α → En → So} : (Rs.ok a e).toS k = k a e := (rfl)
@[simp] theorem Rs.toS_exc {k : α → En → So} : (Rs.exc x e).toS k = .exc x e := (rfl)
@[simp] theorem Rs.opt_some {a : α} : Rs.opt (some a) e = .ok a e := (rfl)
@[simp] theorem Rs.nox_ok {a : α} : (Rs.ok a e).nox = .ok a e := (rfl)
@[simp] theorem So.opt_some : So.opt (some e) = .nx e := (rfl)
@[simp] theorem En.put_mk {sl : List (Option D)} {o : Option Exc} {i : Nat} {d : D} : En.put ⟨sl, o⟩ i d = ⟨sl.set i (some d), o⟩ := (rfl)
@[simp] theorem En.del_mk {sl : List (Option D)} {o : Option Exc} {i : Nat} : En.del ⟨sl, o⟩ i = ⟨sl.set i none, o⟩ := (rfl)
end
@[simp] theorem frz_int {i : Int} : frz (.int i) = .int i := (rfl)
@[simp] theorem frz_bl {i : Bool} : frz (.bl i) = .bl i := (rfl)
@[simp] theorem frz_str {i : Str} : frz (.str i) = .str i := (rfl)
@[simp] theorem frz_ty {i : String} : frz (.ty i) = .ty i := (rfl)
@[simp] theorem frz_non : frz .non = .non := (rfl)
@[simp] theorem frz_nd {k : Kd} {o : Bool} {xs : List D} : frz (.nd k o xs) = .nd k false (frzs xs) := by unfold frz; rfl
@[simp] theorem frzs_nil : frzs [] = [] := (rfl)
@[simp] theorem frzs_cons {x : D} {xs : List D} : frzs (x :: xs) = frz x :: frzs xs := (rfl)
@[simp] theorem frzs_ints : ∀ {ns : List Int}, frzs (ns.map D.int) = ns.map D.int
  | [] => rfl
  | n :: ns => by rw [List.map_cons, frzs_cons, frzs_ints]; rfl
mutual
theorem frz_frz : ∀ d : D, frz (frz d) = frz d
  | .non => rfl | .bl _ => rfl | .int _ => rfl | .str _ => rfl | .ty _ => rfl
  | .nd k o xs => by rw [frz_nd, frz_nd, frzs_frzs xs]
theorem frzs_frzs : ∀ d : List D, frzs (frzs d) = frzs d
  | [] => rfl
  | x :: xs => by rw [frzs_cons, frzs_cons, frz_frz x, frzs_frzs xs]
end
@[simp] theorem frz_id {d : D} : frz (frz d) = frz d := frz_frz d
@[simp] theorem frzs_id {d : List D} : frzs (frzs d) = frzs d := frzs_frzs d
@[simp] theorem frzs_length {d : List D} : (frzs d).length = d.length := frzs_len d
section
variable {e : En} {sl : List (Option D)} {ex : Option Exc}
@[simp] theorem eC_ap {d : D} : eC d e = .ok d e := (rfl)
@[simp] theorem eN_ap {i : Nat} : eN i ⟨sl, ex⟩ = match sl[i]? with
  | some (some d) => .ok (frz d) ⟨sl.set i (some (frz d)), ex⟩
  | _ => .bad := (rfl)
def kBin (g : D → D → Option D) (b : FE) (x : D) (e1 : En) : Rs D := (b e1).bind fun y e2 => .opt (g (frz x) (frz y)) e2
def kBin2 (g : D → D → Option D) (x : D) (y : D) (e2 : En) : Rs D := .opt (g (frz x) (frz y)) e2
@[simp] theorem kBin2_ap {g : D → D → Option D} {x y : D} : kBin2 g x y e = .opt (g (frz x) (frz y)) e := (rfl)
@[simp] theorem kBin_ap {g : D → D → Option D} {b : FE} {x : D} : kBin g b x e = (b e).bind (kBin2 g x) := (rfl)
@[simp] theorem eBin_ap {g : D → D → Option D} {a b : FE} : eBin g a b e = (a e).bind (kBin g b) := (rfl)
@[simp] theorem eUn_ap {g : D → Option D} {a : FE} : eUn g a e = (a e).bind fun x e1 => .opt (g (frz x)) e1 := (rfl)
def kTst (x : D) (e1 : En) : Rs Bool := match x with
  | .bl b => .ok b e1
  | _ => .bad
@[simp] theorem kTst_bl {b : Bool} : kTst (.bl b) e = .ok b e := (rfl)
@[simp] theorem tTst_ap {a : FE} : tTst a e = (a e).bind kTst := (rfl)
def kNt (b : Bool) (e1 : En) : Rs Bool := .ok (!b) e1
@[simp] theorem kNt_ap {b : Bool} : kNt b e = .ok (!b) e := (rfl)
@[simp] theorem tNt_ap {a : FT} : tNt a e = (a e).bind kNt := (rfl)
def kAnd (b : FT) (k : Bool) (e1 : En) : Rs Bool := if k then b e1 else .ok false e1
@[simp] theorem kAnd_t {b : FT} : kAnd b true e = b e := (rfl)
@[simp] theorem kAnd_f {b : FT} : kAnd b false e = .ok false e := (rfl)
theorem kAnd_ap {b : FT} {k : Bool} : kAnd b k e = if k then b e else .ok false e := (rfl)
@[simp] theorem kAnd_d {b : FT} {p : Prop} [Decidable p] : kAnd b (decide p) e = if p then b e else .ok false e := by unfold kAnd; simp
@[simp] theorem kAnd_e {b : FT} {p q : Int} : kAnd b (p == q) e = if p = q then b e else .ok false e := by unfold kAnd; simp
@[simp] theorem kAnd_n {b : FT} {k : Bool} : kAnd b (!k) e = if k then .ok false e else b e := by cases k <;> rfl
@[simp] theorem tAnd_ap {a b : FT} : tAnd a b e = (a e).bind (kAnd b) := (rfl)
def kOr (b : FT) (k : Bool) (e1 : En) : Rs Bool := if k then .ok true e1 else b e1
@[simp] theorem kOr_t {b : FT} : kOr b true e = .ok true e := (rfl)
@[simp] theorem kOr_f {b : FT} : kOr b false e = b e := (rfl)
theorem kOr_ap {b : FT} {k : Bool} : kOr b k e = if k then .ok true e else b e := (rfl)
@[simp] theorem kOr_d {b : FT} {p : Prop} [Decidable p] : kOr b (decide p) e = if p then .ok true e else b e := by unfold kOr; simp
@[simp] theorem kOr_e {b : FT} {p q : Int} : kOr b (p == q) e = if p = q then .ok true e else b e := by unfold kOr; simp
@[simp] theorem kOr_n {b : FT} {k : Bool} : kOr b (!k) e = if k then b e else .ok true e := by cases k <;> rfl
@[simp] theorem tOr_ap {a b : FT} : tOr a b e = (a e).bind (kOr b) := (rfl)
def kEAnd (b : FE) (x : D) (e1 : En) : Rs D := match x with
  | .bl k => if k then b e1 else .ok (.bl false) e1
  | _ => .bad
@[simp] theorem kEAnd_ap {b : FE} {k : Bool} : kEAnd b (.bl k) e = if k then b e else .ok (.bl false) e := (rfl)
@[simp] theorem eAnd_ap {a b : FE} : eAnd a b e = (a e).bind (kEAnd b) := (rfl)
def kEOr (b : FE) (x : D) (e1 : En) : Rs D := match x with
  | .bl k => if k then .ok (.bl true) e1 else b e1
  | _ => .bad
@[simp] theorem kEOr_ap {b : FE} {k : Bool} : kEOr b (.bl k) e = if k then .ok (.bl true) e else b e := (rfl)
@[simp] theorem eOr_ap {a b : FE} : eOr a b e = (a e).bind (kEOr b) := (rfl)
@[simp] theorem eNot_ap {a : FE} : eNot a e = (a e).bind fun x e1 => match x with
  | .bl k => .ok (.bl (!k)) e1
  | _ => .bad := (rfl)
def kIf (a b : FE) (k : Bool) (e1 : En) : Rs D := if k then a e1 else b e1
@[simp] theorem kIf_t {a b : FE} : kIf a b true e = a e := (rfl)
@[simp] theorem kIf_f {a b : FE} : kIf a b false e = b e := (rfl)
theorem kIf_ap {a b : FE} {k : Bool} : kIf a b k e = if k then a e else b e := (rfl)
@[simp] theorem kIf_d {a b : FE} {p : Prop} [Decidable p] : kIf a b (decide p) e = if p then a e else b e := by unfold kIf; simp
@[simp] theorem kIf_e {a b : FE} {p q : Int} : kIf a b (p == q) e = if p = q then a e else b e := by unfold kIf; simp
@[simp] theorem kIf_n {a b : FE} {k : Bool} : kIf a b (!k) e = if k then b e else a e := by cases k <;> rfl
@[simp] theorem eIf_ap {c : FT} {a b : FE} : eIf c a b e = (c e).bind (kIf a b) := (rfl)
@[simp] theorem aNil_ap : aNil e = .ok [] e := (rfl)
def kCons (r : FA) (x : D) (e1 : En) : Rs (List AV) := (r e1).bind fun xs e2 => .ok (.d x :: xs) e2
def kCons2 (x : AV) (xs : List AV) (e2 : En) : Rs (List AV) := .ok (x :: xs) e2
@[simp] theorem kCons2_ap {x : AV} {xs : List AV} : kCons2 x xs e = .ok (x :: xs) e := (rfl)
@[simp] theorem kCons_ap {r : FA} {x : D} : kCons r x e = (r e).bind (kCons2 (.d x)) := (rfl)
@[simp] theorem aCons_ap {a : FE} {r : FA} : aCons a r e = (a e).bind (kCons r) := (rfl)
@[simp] theorem aIo_ap {i : Nat} {r : FA} : aIo i r ⟨sl, ex⟩ = match sl[i]? with
  | some (some _) => (r ⟨sl, ex⟩).bind (kCons2 (.io i))
  | _ => .bad := (rfl)
@[simp] theorem av_d {x : D} : av e (.d x) = some x := (rfl)
@[simp] theorem av_io {i : Nat} : av ⟨sl, ex⟩ (.io i) = (sl[i]?).getD none := (rfl)
@[simp] theorem avs_nil : avs e [] = some [] := (rfl)
@[simp] theorem avs_cons {a : AV} {as : List AV} : avs e (a :: as) = match av e a, avs e as with
  | some d, some ds => some (d :: ds)
  | _, _ => none := (rfl)
@[simp] theorem dvs_nil : dvs [] = some [] := (rfl)
@[simp] theorem dvs_cons {x : D} {as : List AV} : dvs (.d x :: as) = match dvs as with
  | some ds => some (x :: ds)
  | none => none := (rfl)
def kCallB (g : List D → Option D) (as : List AV) (e1 : En) : Rs D := .opt ((avs e1 as).bind g) e1
@[simp] theorem kCallB_ap {g : List D → Option D} {as : List AV} : kCallB g as e = .opt ((avs e as).bind g) e := (rfl)
@[simp] theorem eCallB_ap {g : List D → Option D} {as : FA} : eCallB g as e = (as e).bind (kCallB g) := (rfl)
def kFz (g : List D → Option D) (ds : List D) : Option D := g (frzs ds)
@[simp] theorem kFz_ap {g : List D → Option D} {ds : List D} : kFz g ds = g (frzs ds) := (rfl)
def kCallF (g : List D → Option D) (as : List AV) (e1 : En) : Rs D := .opt ((dvs as).bind (kFz g)) e1
@[simp] theorem kCallF_ap {g : List D → Option D} {as : List AV} : kCallF g as e = .opt ((dvs as).bind (kFz g)) e := (rfl)
@[simp] theorem eCallF_ap {g : List D → Option D} {as : FA} : eCallF g as e = (as e).bind (kCallF g) := (rfl)
def kTup (ds : List D) : Option D := if ds.length ≤ lim then some (.nd .tup false ds) else none
@[simp] theorem kTup_ap {ds : List D} : kTup ds = if ds.length ≤ lim then some (.nd .tup false ds) else none := (rfl)
@[simp] theorem eTup_ap {as : FA} : eTup as e = (as e).bind (kCallF kTup) := (rfl)
def kLst (ds : List D) : Option D := if ds.length ≤ lim then some (.nd .lst true ds) else none
@[simp] theorem kLst_ap {ds : List D} : kLst ds = if ds.length ≤ lim then some (.nd .lst true ds) else none := (rfl)
def kELst (as : List AV) (e1 : En) : Rs D := .opt ((dvs as).bind kLst) e1
@[simp] theorem kELst_ap {as : List AV} : kELst as e = .opt ((dvs as).bind kLst) e := (rfl)
@[simp] theorem eLst_ap {as : FA} : eLst as e = (as e).bind kELst := (rfl)
@[simp] theorem gN_ap {i : Nat} {d : D} : gN i d ⟨sl, ex⟩ = if i < sl.length then some ⟨sl.set i (some d), ex⟩ else none := (rfl)
@[simp] theorem fNext_ap : fNext e = .nx e := (rfl)
def kNx : Option En → So
  | some e2 => .nx e2
  | none => .bad
@[simp] theorem kNx_some : kNx (some e) = .nx e := (rfl)
def kAsg (g : FG) (d : D) (e1 : En) : So := kNx (g d e1)
@[simp] theorem kAsg_ap {g : FG} {d : D} : kAsg g d e = kNx (g d e) := (rfl)
@[simp] theorem fAsg_ap {g : FG} {a : FE} : fAsg g a e = (a e).toS (kAsg g) := (rfl)
def kSIf (t u : FS) (k : Bool) (e1 : En) : So := if k then t e1 else u e1
@[simp] theorem kSIf_t {t u : FS} : kSIf t u true e = t e := (rfl)
@[simp] theorem kSIf_f {t u : FS} : kSIf t u false e = u e := (rfl)
theorem kSIf_ap {t u : FS} {k : Bool} : kSIf t u k e = if k then t e else u e := (rfl)
@[simp] theorem kSIf_d {t u : FS} {p : Prop} [Decidable p] : kSIf t u (decide p) e = if p then t e else u e := by unfold kSIf; simp
@[simp] theorem kSIf_e {a b : FS} {p q : Int} : kSIf a b (p == q) e = if p = q then a e else b e := by unfold kSIf; simp
@[simp] theorem kSIf_n {t u : FS} {k : Bool} : kSIf t u (!k) e = if k then u e else t e := by cases k <;> rfl
@[simp] theorem fIf_ap {c : FT} {t u : FS} : fIf c t u e = (c e).toS (kSIf t u) := (rfl)
def kRet (d : D) (e1 : En) : So := .rt d e1
@[simp] theorem kRet_ap {d : D} : kRet d e = .rt d e := (rfl)
@[simp] theorem fRet_ap {a : FE} : fRet a e = (a e).toS kRet := (rfl)
@[simp] theorem fRetN_ap : fRetN e = .rt .non e := (rfl)
@[simp] theorem fRetV_ap {i : Nat} : fRetV i ⟨sl, ex⟩ = match sl[i]? with
  | some (some d) => .rt d ⟨sl.set i none, ex⟩
  | _ => .bad := (rfl)
def kExpr (_ : D) (e1 : En) : So := .nx e1
@[simp] theorem kExpr_ap {d : D} : kExpr d e = .nx e := (rfl)
@[simp] theorem fExpr_ap {a : FE} : fExpr a e = (a e).toS kExpr := (rfl)
@[simp] theorem fBreak_ap : fBreak e = .bk e := (rfl)
@[simp] theorem fCont_ap : fCont e = .ct e := (rfl)
def kFor (g : FG) (body : FS) (xs : List D) (e1 : En) : So := forL g body xs e1
@[simp] theorem kFor_ap {g : FG} {body : FS} {xs : List D} : kFor g body xs e = forL g body xs e := (rfl)
@[simp] theorem fFor_ap {it : FI} {g : FG} {body : FS} : fFor it g body e = (it e).toS (kFor g body) := (rfl)
def kIE (d : D) (e1 : En) : Rs (List D) := .opt (itsD (frz d)) e1
@[simp] theorem kIE_ap {d : D} : kIE d e = .opt (itsD (frz d)) e := (rfl)
@[simp] theorem iE_ap {a : FE} : iE a e = (a e).bind kIE := (rfl)
def kRng (g : List D → Option (List D)) (as : List AV) (e1 : En) : Rs (List D) := .opt ((dvs as).bind g) e1
@[simp] theorem kRng_ap {g : List D → Option (List D)} {as : List AV} : kRng g as e = .opt ((dvs as).bind g) e := (rfl)
@[simp] theorem iRng1_ap {as : FA} : iRng1 as e = (as e).bind (kRng rngA1) := (rfl)
@[simp] theorem iRng2_ap {as : FA} : iRng2 as e = (as e).bind (kRng rngA2) := (rfl)
def kLcE (acc : List D) (e2 : En) : Rs D := .ok (.nd .lst true acc) e2
@[simp] theorem kLcE_ap {acc : List D} : kLcE acc e = .ok (.nd .lst true acc) e := (rfl)
def kLc (vs : List Nat) (g : FG) (tt : FT) (el : FE) (xs : List D) (e1 : En) : Rs D := (lcL vs g tt el xs [] (delL e1 vs)).bind kLcE
@[simp] theorem kLc_ap {vs : List Nat} {g : FG} {tt : FT} {el : FE} {xs : List D} : kLc vs g tt el xs e = (lcL vs g tt el xs [] (delL e vs)).bind kLcE := (rfl)
@[simp] theorem eLc_ap {vs : List Nat} {it : FI} {g : FG} {tt : FT} {el : FE} : eLc vs it g tt el e = (it e).bind (kLc vs g tt el) := (rfl)
@[simp] theorem tYesF_ap : tYesF e = .ok true e := (rfl)
@[simp] theorem delL_nil : delL e [] = e := (rfl)
@[simp] theorem delL_cons {v : Nat} {vs : List Nat} : delL e (v :: vs) = (delL e vs).del v := (rfl)
def kRefE (i : Nat) (e1 : En) : Option (D × D) → Rs D
  | some (z, d') => .ok z { e1 with sl := e1.sl.set i (some d') }
  | none => .bad
@[simp] theorem kRefE_some {i : Nat} {z d' : D} : kRefE i ⟨sl, ex⟩ (some (z, d')) = .ok z ⟨sl.set i (some d'), ex⟩ := (rfl)
def kIxN2 (i : Nat) (e1 : En) (y : D) : Option (Option D) → Rs D
  | some (some d) => kRefE i e1 (refD d (frz y))
  | _ => .bad
@[simp] theorem kIxN2_some {i : Nat} {y d : D} : kIxN2 i e y (some (some d)) = kRefE i e (refD d (frz y)) := (rfl)
def kIxN (i : Nat) (y : D) (e1 : En) : Rs D := kIxN2 i e1 y (e1.sl[i]?)
@[simp] theorem kIxN_ap {i : Nat} {y : D} : kIxN i y ⟨sl, ex⟩ = kIxN2 i ⟨sl, ex⟩ y (sl[i]?) := (rfl)
@[simp] theorem eIxN_ap {i : Nat} {b : FE} : eIxN i b ⟨sl, ex⟩ = match sl[i]? with
  | some (some _) => (b ⟨sl, ex⟩).bind (kIxN i)
  | _ => .bad := by
  unfold eIxN
  dsimp only
  cases sl[i]? with
  | none => rfl
  | some o =>
    cases o with
    | none => rfl
    | some d0 =>
      dsimp only
      congr 1
      funext y e1
      unfold kIxN kIxN2
      cases e1.sl[i]? with
      | none => rfl
      | some o =>
        cases o with
        | none => rfl
        | some d =>
          dsimp only
          unfold kRefE
          cases refD d (frz y) <;> rfl
@[simp] theorem En.own_ap {i : Nat} : En.own ⟨sl, ex⟩ i = match sl[i]? with
  | some (some (.nd k true xs)) => some (k, xs)
  | _ => none := (rfl)
@[simp] theorem En.ownL_ap {i : Nat} : En.ownL ⟨sl, ex⟩ i = match sl[i]? with
  | some (some (.nd .lst true xs)) => some xs
  | _ => none := (rfl)
def kSetD (i : Nat) (d y : D) (e2 : En) : Option (Kd × List D) → So
  | some (k, xs) => .opt ((setD k xs (frz y) d).map (e2.put i))
  | none => .bad
@[simp] theorem kSetD_some {i : Nat} {d y : D} {k : Kd} {xs : List D} : kSetD i d y e (some (k, xs)) = .opt ((setD k xs (frz y) d).map (e.put i)) := (rfl)
def kSetN2 (i : Nat) (d y : D) (e2 : En) : So := kSetD i d y e2 (e2.own i)
@[simp] theorem kSetN2_ap {i : Nat} {d y : D} : kSetN2 i d y e = kSetD i d y e (e.own i) := (rfl)
def kSetN (i : Nat) (b : FE) (d : D) (e1 : En) : So := if (e1.own i).isSome then (b e1).toS (kSetN2 i d) else .bad
@[simp] theorem kSetN_ap {i : Nat} {b : FE} {d : D} : kSetN i b d e = if (e.own i).isSome then (b e).toS (kSetN2 i d) else .bad := (rfl)
@[simp] theorem fSetN_ap {i : Nat} {b a : FE} : fSetN i b a e = (a e).toS (kSetN i b) := by
  unfold fSetN
  congr 1
  funext d e1
  unfold kSetN
  split
  · congr 1
    funext y e2
    unfold kSetN2 kSetD
    cases e2.own i <;> rfl
  · rfl
def kAppD (i : Nat) (d : D) (e1 : En) : Option (List D) → Rs D
  | some xs => if xs.length < lim then .ok .non (e1.put i (.nd .lst true (xs ++ [d]))) else .bad
  | none => .bad
@[simp] theorem kAppD_some {i : Nat} {d : D} {xs : List D} : kAppD i d e (some xs) = if xs.length < lim then .ok .non (e.put i (.nd .lst true (xs ++ [d]))) else .bad := (rfl)
def kAppN (i : Nat) (d : D) (e1 : En) : Rs D := kAppD i d e1 (e1.ownL i)
@[simp] theorem kAppN_ap {i : Nat} {d : D} : kAppN i d e = kAppD i d e (e.ownL i) := (rfl)
@[simp] theorem eAppN_ap {i : Nat} {a : FE} : eAppN i a e = if (e.ownL i).isSome then (a e).bind (kAppN i) else .bad := by
  unfold eAppN
  rfl
def kAug (i : Nat) (g : D → D → Option D) (d y : D) (e1 : En) : So := .opt ((g d (frz y)).map (e1.put i))
@[simp] theorem kAug_ap {i : Nat} {g : D → D → Option D} {d y : D} : kAug i g d y e = .opt ((g d (frz y)).map (e.put i)) := (rfl)
@[simp] theorem fAug_ap {i : Nat} {g : D → D → Option D} {a : FE} : fAug i g a ⟨sl, ex⟩ = match sl[i]? with
  | some (some d) => if d.sc then (a ⟨sl, ex⟩).toS (kAug i g d) else .bad
  | _ => .bad := (rfl)
@[simp] theorem fAugN_ap {i : Nat} {g : D → D → Option D} {b a : FE} : fAugN i g b a e = if (e.own i).isSome then (b e).toS fun y e1 => (match e1.own i with
  | some (.lst, xs) => (match cpos (.nd .lst true xs) (frz y) with
    | some j => (match xs[j]? with
      | some d => if d.sc then (a e1).toS fun w e2 => .opt ((g d (frz w)).bind fun z => (e2.ownL i).bind fun xs => (setD .lst xs (frz y) z).map fun d' => e2.put i d') else .bad
      | none => .bad)
    | none => .bad)
  | _ => .bad) else .bad := (rfl)
@[simp] theorem takeA_nil : takeA e [] = some ([], e) := (rfl)
@[simp] theorem takeA_d {x : D} {as : List AV} : takeA e (.d x :: as) = (takeA e as).map fun (ds, e2) => (x :: ds, e2) := (rfl)
@[simp] theorem takeA_io {i : Nat} {as : List AV} : takeA ⟨sl, ex⟩ (.io i :: as) = match sl[i]? with
  | some (some d) => (takeA ⟨sl.set i none, ex⟩ as).map fun (ds, e2) => (d :: ds, e2)
  | _ => none := (rfl)
@[simp] theorem putA_nil {os : List (Option D)} : putA [] os e = some e := by cases os <;> rfl
@[simp] theorem putA_d {x : D} {as : List AV} {o : Option D} {os : List (Option D)} : putA (.d x :: as) (o :: os) e = putA as os e := by cases o <;> rfl
@[simp] theorem putA_io {i : Nat} {d : D} {as : List AV} {os : List (Option D)} : putA (.io i :: as) (some d :: os) ⟨sl, ex⟩ = match sl[i]? with
  | some none => putA as os ⟨sl.set i (some d), ex⟩
  | _ => none := (rfl)
def callP (d : D) : Option En → Rs D
  | some e3 => .ok d e3
  | none => .bad
def callX (x : Exc) : Option En → Rs D
  | some e3 => .exc x e3
  | none => .bad
def callF (as : List AV) (e2 : En) : CR → Rs D
  | .ok d os => callP d (putA as os e2)
  | .exc x os => callX x (putA as os e2)
  | .bad => .bad
def callT (n : Nat) (F : List D → CR) (as : List AV) : Option (List D × En) → Rs D
  | some (ds, e2) => if ds.length = n then callF as e2 (F ds) else .bad
  | none => .bad
@[simp] theorem callP_some {d : D} {e3 : En} : callP d (some e3) = .ok d e3 := (rfl)
@[simp] theorem callX_some {x : Exc} {e3 : En} : callX x (some e3) = .exc x e3 := (rfl)
@[simp] theorem callF_ok {as : List AV} {e2 : En} {d : D} {os : List (Option D)} : callF as e2 (.ok d os) = callP d (putA as os e2) := (rfl)
@[simp] theorem callF_exc {as : List AV} {e2 : En} {x : Exc} {os : List (Option D)} : callF as e2 (.exc x os) = callX x (putA as os e2) := (rfl)
@[simp] theorem callT_some {n : Nat} {F : List D → CR} {as : List AV} {ds : List D} {e2 : En} : callT n F as (some (ds, e2)) = if ds.length = n then callF as e2 (F ds) else .bad := (rfl)
def kCall (n : Nat) (F : List D → CR) (as : List AV) (e1 : En) : Rs D := callT n F as (takeA e1 as)
@[simp] theorem kCall_ap {n : Nat} {F : List D → CR} {as : List AV} : kCall n F as e = callT n F as (takeA e as) := (rfl)
@[simp] theorem eCall_ap {n : Nat} {F : List D → CR} {as : FA} : eCall n F as e = (as e).bind (kCall n F) := by
  unfold eCall
  congr 1
end
@[simp] theorem subD_int {i j : Int} : subD (.int i) (.int j) = some (.int (i - j)) := (rfl)
@[simp] theorem ltD_int {i j : Int} : ltD (.int i) (.int j) = some (.bl (decide (i < j))) := (rfl)
@[simp] theorem leD_int {i j : Int} : leD (.int i) (.int j) = some (.bl (decide (i ≤ j))) := (rfl)
@[simp] theorem gtD_int {i j : Int} : gtD (.int i) (.int j) = some (.bl (decide (j < i))) := (rfl)
@[simp] theorem geD_int {i j : Int} : geD (.int i) (.int j) = some (.bl (decide (j ≤ i))) := (rfl)
@[simp] theorem addD_int {i j : Int} : addD (.int i) (.int j) = some (.int (i + j)) := (rfl)
@[simp] theorem mulD_int {i j : Int} : mulD (.int i) (.int j) = if mulOk i j then some (.int (i * j)) else none := (rfl)
@[simp] theorem divD_int {i j : Int} : divD (.int i) (.int j) = if decide (0 < j) && decide (j.natAbs.log2 < 9000) then some (.int (i / j)) else none := (rfl)
@[simp] theorem modD_int {i j : Int} : modD (.int i) (.int j) = if decide (0 < j) then some (.int (i % j)) else none := (rfl)
@[simp] theorem powD_int {i j : Int} : powD (.int i) (.int j) = if decide (0 ≤ j) && decide (j ≤ 1000000) && decide (i.natAbs < 2 ^ 64) then some (.int (i ^ j.toNat)) else none := (rfl)
@[simp] theorem addID_int {i j : Int} : addID (.int i) (.int j) = some (.int (i + j)) := (rfl)
@[simp] theorem negD_int {i : Int} : negD (.int i) = some (.int (-i)) := (rfl)
@[simp] theorem intD_int {i : Int} : intD [.int i] = some (.int i) := (rfl)
@[simp] theorem absD_int {i : Int} : absD [.int i] = some (.int (if i < 0 then -i else i)) := (rfl)
@[simp] theorem maxD_int {i j : Int} : maxD [.int i, .int j] = some (.int (if j > i then j else i)) := (rfl)
@[simp] theorem minD_int {i j : Int} : minD [.int i, .int j] = some (.int (if j < i then j else i)) := (rfl)
@[simp] theorem maxD_lst {o : Bool} {ns : List Int} : maxD [.nd .lst o (ns.map D.int)] = if ns ≠ [] then some (.int (maxI ns)) else none := by simp [maxD, D.seq]
@[simp] theorem minD_lst {o : Bool} {ns : List Int} : minD [.nd .lst o (ns.map D.int)] = if ns ≠ [] then some (.int (minI ns)) else none := by simp [minD, D.seq]
@[simp] theorem sumD_lst {o : Bool} {ns : List Int} : sumD [.nd .lst o (ns.map D.int)] = some (.int ns.sum) := by simp [sumD, D.seq]
@[simp] theorem allD_lst {o : Bool} {ns : List Bool} : allD [.nd .lst o (ns.map D.bl)] = some (.bl (ns.all id)) := by simp [allD, D.seq]
@[simp] theorem anyD_lst {o : Bool} {ns : List Bool} : anyD [.nd .lst o (ns.map D.bl)] = some (.bl (ns.any id)) := by simp [anyD, D.seq]
@[simp] theorem lenD_lst {o : Bool} {xs : List D} : lenD [.nd .lst o xs] = some (.int xs.length) := (rfl)
@[simp] theorem lenD_wl {o : Bool} {xs : List D} : lenD [.nd .wl o xs] = some (.int xs.length) := (rfl)
@[simp] theorem lenD_tup {o : Bool} {xs : List D} : lenD [.nd .tup o xs] = some (.int xs.length) := (rfl)
@[simp] theorem itsD_lst {o : Bool} {xs : List D} : itsD (.nd .lst o xs) = some xs := (rfl)
@[simp] theorem itsD_wl {o : Bool} {xs : List D} : itsD (.nd .wl o xs) = some xs := (rfl)
@[simp] theorem itsD_tup {o : Bool} {xs : List D} : itsD (.nd .tup o xs) = some xs := (rfl)
@[simp] theorem cpos_lst {o : Bool} {xs : List D} {i : Int} : cpos (.nd .lst o xs) (.int i) = ixN xs.length i := (rfl)
@[simp] theorem cpos_wl {o : Bool} {xs : List D} {i : Int} : cpos (.nd .wl o xs) (.int i) = ixN xs.length i := (rfl)
@[simp] theorem cpos_tup {o : Bool} {xs : List D} {i : Int} : cpos (.nd .tup o xs) (.int i) = ixN xs.length i := (rfl)
@[simp] theorem refD_nd {k : Kd} {o : Bool} {xs : List D} {y : D} : refD (.nd k o xs) y = (cpos (.nd k o xs) y).bind fun j => (xs[j]?).map fun d => (frz d, if o then .nd k o (xs.set j (frz d)) else .nd k o xs) := (rfl)
@[simp] theorem setD_lst {xs : List D} {d : D} {i : Int} : setD .lst xs (.int i) d = (ixN xs.length i).map fun j => .nd .lst true (xs.set j d) := (rfl)
@[simp] theorem sc_int {i : Int} : (D.int i).sc = true := (rfl)
@[simp] theorem sc_nd {k : Kd} {o : Bool} {xs : List D} : (D.nd k o xs).sc = false := (rfl)
@[simp] theorem log2_small {n : Nat} (h : n < 1152921504606846976) : (n.log2 < 9000) = True := by
  by_cases z : n = 0
  · subst z; simp
  · have := (Nat.log2_lt (n := n) (k := 60) z).mpr (by omega)
    exact eq_true (by omega)
@[simp] theorem ite_ok {α : Type} {c : Prop} [Decidable c] {x y : α} {e : En} : (if c then Rs.ok x e else Rs.ok y e) = Rs.ok (if c then x else y) e := by split <;> rfl
@[simp] theorem ite_int {c : Prop} [Decidable c] {x y : Int} : (if c then D.int x else D.int y) = D.int (if c then x else y) := by split <;> rfl
@[simp] theorem frz_ite {c : Prop} [Decidable c] {x y : D} : frz (if c then x else y) = if c then frz x else frz y := by split <;> rfl
theorem ixN_nat {n j : Nat} (h : j < n) : ixN n (j : Int) = some j := by unfold ixN; simp; omega
@[simp] theorem outs_nil : ∀ {n j : Nat} {sl : List (Option D)}, outs [] j n sl = List.replicate n none
  | 0, _, _ => rfl
  | n + 1, j, [] => by unfold outs; rw [outs_nil]; rfl
  | n + 1, j, o :: sl => by unfold outs; rw [outs_nil]; rfl
theorem seq_go {P : So → Prop} {s t : FS} {e : En} (e1 : En) (h1 : s e = .nx e1) (h2 : P (t e1)) : P (fSeq s t e) := by unfold fSeq; rw [h1]; exact h2
theorem seq_rt {s t : FS} {e : En} {d : D} {Q : En → Prop} (h : ∃ e1, s e = .rt d e1 ∧ Q e1) : ∃ e1, fSeq s t e = .rt d e1 ∧ Q e1 := by
  obtain ⟨e1, h, q⟩ := h
  exact ⟨e1, by unfold fSeq; rw [h], q⟩
theorem seq_goE {P : So → Prop} {s t : FS} {e : En} (h1 : ∃ e1, s e = .nx e1 ∧ P (t e1)) : P (fSeq s t e) := by obtain ⟨e1, h1, h2⟩ := h1; unfold fSeq; rw [h1]; exact h2
/-- one statement, then the others -/
def So.sq (r : So) (t : FS) : So := match r with
  | .nx e => t e
  | r => r
@[simp] theorem So.sq_nx {t : FS} {e : En} : (So.nx e).sq t = t e := (rfl)
@[simp] theorem So.sq_rt {t : FS} {d : D} {e : En} : (So.rt d e).sq t = .rt d e := (rfl)
@[simp] theorem So.sq_exc {t : FS} {d : Exc} {e : En} : (So.exc d e).sq t = .exc d e := (rfl)
@[simp] theorem So.sq_bk {t : FS} {e : En} : (So.bk e).sq t = .bk e := (rfl)
@[simp] theorem So.sq_ct {t : FS} {e : En} : (So.ct e).sq t = .ct e := (rfl)
@[simp] theorem So.sq_ite {c : Prop} [Decidable c] {x y : So} {t : FS} : (if c then x else y).sq t = if c then x.sq t else y.sq t := by split <;> rfl
@[simp] theorem fSeq_ap {s t : FS} {e : En} : fSeq s t e = (s e).sq t := (rfl)
def So.fin (io : List Nat) (n : Nat) : So → CR
  | .nx e => .ok .non (outs io 0 n e.sl)
  | .rt d e => .ok d (outs io 0 n e.sl)
  | .exc x e => .exc x (outs io 0 n e.sl)
  | _ => .bad
@[simp] theorem fin_nx {io : List Nat} {n : Nat} {e : En} : So.fin io n (.nx e) = .ok .non (outs io 0 n e.sl) := (rfl)
@[simp] theorem fin_rt {io : List Nat} {n : Nat} {d : D} {e : En} : So.fin io n (.rt d e) = .ok d (outs io 0 n e.sl) := (rfl)
@[simp] theorem fin_exc {io : List Nat} {n : Nat} {d : Exc} {e : En} : So.fin io n (.exc d e) = .exc d (outs io 0 n e.sl) := (rfl)
theorem fDef_ap {N : Nat} {io : List Nat} {body : FS} {ds : List D} : fDef N io body ds = So.fin io ds.length (body ⟨ds.map some ++ List.replicate (N - ds.length) none, none⟩) := by
  unfold fDef So.fin
  cases body ⟨ds.map some ++ List.replicate (N - ds.length) none, none⟩ <;> rfl
theorem fDef_rt {os : List (Option D)} {N : Nat} {io : List Nat} {body : FS} {ds : List D} {d : D} (h : ∃ e, body ⟨ds.map some ++ List.replicate (N - ds.length) none, none⟩ = .rt d e ∧ outs io 0 ds.length e.sl = os) : fDef N io body ds = .ok d os := by
  obtain ⟨e, h, ho⟩ := h
  unfold fDef; rw [h, ← ho]
/-- a body that returns -/
def RT (P : D → Prop) (r : So) : Prop := ∃ d e, r = .rt d e ∧ P d
theorem RT.go {N : Nat} {io : List Nat} {body : FS} {ds : List D} {P : D → Prop} (h : RT P (body ⟨ds.map some ++ List.replicate (N - ds.length) none, none⟩)) : ∃ d os, fDef N io body ds = .ok d os ∧ P d := by
  obtain ⟨d, e, h, hp⟩ := h
  exact ⟨d, _, by unfold fDef; rw [h], hp⟩
theorem RT.go0 {N : Nat} {body : FS} {ds : List D} {P : D → Prop} (h : RT P (body ⟨ds.map some ++ List.replicate (N - ds.length) none, none⟩)) : ∃ d, fDef N [] body ds = .ok d (List.replicate ds.length none) ∧ P d := by
  obtain ⟨d, e, h, hp⟩ := h
  exact ⟨d, by unfold fDef; rw [h]; dsimp only; rw [outs_nil], hp⟩
theorem rt_go {N : Nat} {io : List Nat} {body : FS} {ds : List D} {d : D} (h : ∃ e, body ⟨ds.map some ++ List.replicate (N - ds.length) none, none⟩ = .rt d e) : ∃ os, fDef N io body ds = .ok d os := by
  obtain ⟨e, h⟩ := h
  exact ⟨_, by unfold fDef; rw [h]⟩
@[simp] theorem forL_nil {g : FG} {b : FS} {e : En} : forL g b [] e = .nx e := (rfl)
theorem forL_cons {g : FG} {b : FS} {e : En} {x : D} {xs : List D} : forL g b (x :: xs) e = match g x e with
    | none => .bad
    | some e1 => match b e1 with
      | .nx e2 => forL g b xs e2
      | .ct e2 => forL g b xs e2
      | .bk e2 => .nx e2
      | r => r := (rfl)
theorem forL_step {g : FG} {b : FS} {e e1 e2 : En} {x : D} {xs : List D} (h1 : g x e = some e1) (h2 : b e1 = .nx e2) : forL g b (x :: xs) e = forL g b xs e2 := by
  rw [forL_cons, h1]; dsimp only; rw [h2]
theorem forL_ix {g : FG} {b : FS} {I : Nat → En → Prop} : ∀ {xs : List D} {e : En} {j : Nat}, I j e → (∀ i x, xs[i]? = some x → ∀ e, I (j + i) e → ∃ e1 e2, g x e = some e1 ∧ b e1 = .nx e2 ∧ I (j + i + 1) e2) → ∃ e', forL g b xs e = .nx e' ∧ I (j + xs.length) e'
  | [], e, j, h, _ => ⟨e, rfl, h⟩
  | x :: xs, e, j, h, k => by
    obtain ⟨e1, e2, h1, h2, h3⟩ := k 0 x rfl e h
    obtain ⟨e', h4, h5⟩ := forL_ix (xs := xs) (j := j + 1) h3 fun i y hy e he => by
      have z : j + 1 + i = j + (i + 1) := by omega
      rw [z] at he ⊢
      exact k (i + 1) y hy e he
    exact ⟨e', by rw [forL_step h1 h2]; exact h4, by rw [List.length_cons, ← Nat.add_assoc, Nat.add_right_comm]; exact h5⟩
theorem forL_sim {α : Type} {g : FG} {b : FS} (R : α → En → Prop) (step : D → α → α) : ∀ {xs : List D} {e : En} {s : α}, R s e → (∀ x ∈ xs, ∀ s e, R s e → ∃ e1 e2, g x e = some e1 ∧ b e1 = .nx e2 ∧ R (step x s) e2) → ∃ e', forL g b xs e = .nx e' ∧ R (xs.foldl (fun s x => step x s) s) e'
  | [], e, s, h, _ => ⟨e, rfl, h⟩
  | x :: xs, e, s, h, k => by
    obtain ⟨e1, e2, h1, h2, h3⟩ := k x List.mem_cons_self s e h
    obtain ⟨e', h4, h5⟩ := forL_sim R step h3 fun y hy => k y (List.mem_cons_of_mem _ hy)
    exact ⟨e', by rw [forL_step h1 h2]; exact h4, h5⟩
@[simp] theorem gsNil_ap {e : En} : gsNil [] e = some e := (rfl)
@[simp] theorem gsCons_ap {g : FG} {r : FGs} {d : D} {ds : List D} {e : En} : gsCons g r (d :: ds) e = (g d e).bind (r ds) := (rfl)
@[simp] theorem gT_tup {n : Nat} {r : FGs} {o : Bool} {xs : List D} {e : En} : gT n r (.nd .tup o xs) e = if xs.length = n then r (frzs xs) e else none := by
  unfold gT; rw [frz_nd]; dsimp only; rw [frzs_len]
theorem try_exc {i : Nat} {isA : Str → Option Bool} {b u : FS} {e : En} {sl : List (Option D)} {ex : Option Exc} {x : Exc} (h : b e = .exc x ⟨sl, ex⟩) (hA : isA x.c = some true) (hi : i < sl.length) : fTryAs i isA b u e = (u ⟨sl.set i none, some x⟩).calm i := by
  unfold fTryAs; rw [h]; dsimp only; rw [hA]; dsimp only; rw [if_pos hi]; rfl
theorem try_nx {i : Nat} {isA : Str → Option Bool} {b u : FS} {e e1 : En} (h : b e = .nx e1) : fTryAs i isA b u e = .nx e1 := by
  unfold fTryAs; rw [h]
@[simp] theorem calm_nx {i : Nat} {sl : List (Option D)} {ex : Option Exc} : (So.nx ⟨sl, ex⟩).calm i = .nx ⟨sl.set i none, none⟩ := (rfl)
@[simp] theorem calm_rt {i : Nat} {d : D} {sl : List (Option D)} {ex : Option Exc} : (So.rt d ⟨sl, ex⟩).calm i = .rt d ⟨sl.set i none, none⟩ := (rfl)
/-- a for whose turns all go on -/
theorem forL_inv {g : FG} {b : FS} {I : En → Prop} : ∀ {xs : List D} {e : En}, I e → (∀ x ∈ xs, ∀ e, I e → ∃ e1 e2, g x e = some e1 ∧ b e1 = .nx e2 ∧ I e2) → ∃ e', forL g b xs e = .nx e' ∧ I e'
  | [], e, h, _ => ⟨e, rfl, h⟩
  | x :: xs, e, h, k => by
    obtain ⟨e1, e2, h1, h2, h3⟩ := k x List.mem_cons_self e h
    obtain ⟨e', h4, h5⟩ := forL_inv h3 fun y hy => k y (List.mem_cons_of_mem _ hy)
    exact ⟨e', by unfold forL; rw [h1]; dsimp only; rw [h2]; exact h4, h5⟩
/-- a comprehension without tests -/
theorem lcL_map {vs : List Nat} {g : FG} {tt : FT} {el : FE} {base : En} {y : D → D} : ∀ {xs acc : List D}, (∀ x ∈ xs, ∃ e1 e2 e3, g x base = some e1 ∧ tt e1 = .ok true e2 ∧ el e2 = .ok (y x) e3 ∧ delL e3 vs = base) → acc.length + xs.length ≤ lim →
    lcL vs g tt el xs acc base = .ok (acc ++ xs.map y) base
  | [], acc, _, _ => by rw [List.map_nil, List.append_nil]; rfl
  | x :: xs, acc, h, hl => by
    obtain ⟨e1, e2, e3, h1, h2, h3, h4⟩ := h x List.mem_cons_self
    rw [List.length_cons] at hl
    have ih := lcL_map (xs := xs) (acc := acc ++ [y x]) (fun z hz => h z (List.mem_cons_of_mem _ hz)) (by simp; omega)
    unfold lcL
    rw [h1]; dsimp only
    rw [h2, Rs.nox_ok, Rs.bind_ok, if_pos rfl, h3, Rs.nox_ok, Rs.bind_ok, if_pos (by omega), h4, ih]
    simp
theorem lcL_flt {vs : List Nat} {g : FG} {tt : FT} {el : FE} {base : En} {p : D → Bool} {y : D → D} : ∀ {xs acc : List D}, (∀ x ∈ xs, ∃ e1 e2, g x base = some e1 ∧ tt e1 = .ok (p x) e2 ∧ (p x = true → ∃ e3, el e2 = .ok (y x) e3 ∧ delL e3 vs = base) ∧ (p x = false → delL e2 vs = base)) → acc.length + xs.length ≤ lim →
    lcL vs g tt el xs acc base = .ok (acc ++ (xs.filter p).map y) base
  | [], acc, _, _ => by rw [List.filter_nil, List.map_nil, List.append_nil]; rfl
  | x :: xs, acc, h, hl => by
    obtain ⟨e1, e2, h1, h2, h3, h4⟩ := h x List.mem_cons_self
    rw [List.length_cons] at hl
    unfold lcL
    rw [h1]; dsimp only
    rw [h2, Rs.nox_ok, Rs.bind_ok]
    cases hp : p x with
    | true =>
      obtain ⟨e3, h5, h6⟩ := h3 hp
      rw [if_pos rfl, h5, Rs.nox_ok, Rs.bind_ok, if_pos (by omega), h6, lcL_flt (fun z hz => h z (List.mem_cons_of_mem _ hz)) (by simp; omega), List.filter_cons, if_pos hp]
      simp
    | false =>
      rw [if_neg (by simp), h4 hp, lcL_flt (fun z hz => h z (List.mem_cons_of_mem _ hz)) (by omega), List.filter_cons, if_neg (by simp [hp])]
theorem set_same {α : Type} {xs : List α} {j : Nat} {d : α} (h : xs[j]? = some d) : xs.set j d = xs := by
  obtain ⟨h1, h2⟩ := List.getElem?_eq_some_iff.mp h
  rw [← h2, List.set_getElem_self]
theorem rngD_at {lo : Int} {n i : Nat} {x : D} (h : (rngD lo n)[i]? = some x) : i < n ∧ x = .int (lo + i) := by
  unfold rngD at h
  rw [List.getElem?_map] at h
  obtain ⟨j, h1, h2⟩ := Option.map_eq_some_iff.mp h
  obtain ⟨h3, h4⟩ := List.getElem?_eq_some_iff.mp h1
  rw [List.getElem_range] at h4
  subst h4
  exact ⟨by simpa using h3, h2.symm⟩
theorem rngD_mem {lo : Int} {n : Nat} {x : D} (h : x ∈ rngD lo n) : ∃ i : Nat, i < n ∧ x = .int (lo + i) := by
  obtain ⟨i, hi, rfl⟩ := List.mem_map.mp h
  exact ⟨i, List.mem_range.mp hi, rfl⟩
@[simp] theorem rngD_length {lo : Int} {n : Nat} : (rngD lo n).length = n := by simp [rngD]
theorem sum_bound {B : Int} : ∀ {ns : List Int}, (∀ x ∈ ns, 0 ≤ x ∧ x ≤ B) → 0 ≤ ns.sum ∧ ns.sum ≤ B * ns.length
  | [], _ => by simp
  | n :: ns, h => by
    have h1 := h n List.mem_cons_self
    have ih := sum_bound fun x hx => h x (List.mem_cons_of_mem _ hx)
    rw [List.sum_cons, List.length_cons]
    have : B * ((ns.length + 1 : Nat) : Int) = B * ns.length + B := by rw [Int.natCast_add]; simp [Int.mul_add]
    omega
theorem mulOk_of {i j : Int} (hi : i.natAbs < 2 ^ 400000) (hj : j.natAbs < 2 ^ 400000) : mulOk i j = true := by
  unfold mulOk
  have h : ∀ n : Nat, n < 2 ^ 400000 → n.log2 ≤ 400000 := fun n h => by
    by_cases z : n = 0
    · subst z; simp
    · exact Nat.le_of_lt ((Nat.log2_lt z).mpr h)
  have := h _ hi
  have := h _ hj
  exact decide_eq_true (by omega)
theorem mulOk_60 {i j : Int} (hi : i.natAbs < 2 ^ 62) (hj : j.natAbs < 2 ^ 62) : mulOk i j = true :=
  mulOk_of (Nat.lt_of_lt_of_le hi (Nat.pow_le_pow_right (by decide) (by decide))) (Nat.lt_of_lt_of_le hj (Nat.pow_le_pow_right (by decide) (by decide)))
end Bx

set_option Elab.async false
set_option linter.all false
set_option maxRecDepth 100000
/-! Evaluation: places, instances. -/
namespace Bx
open PySem L2
section
variable {e : En} {sl : List (Option D)} {ex : Option Exc}
@[simp] theorem eQ_ap {q : FQ} : eQ q e = .opt (q e) e := (rfl)
@[simp] theorem qC_ap {d : D} : qC d e = some d := (rfl)
def kL (z : D × (D → En)) : Option D := if z.1.isF then some z.1 else none
@[simp] theorem kL_ap {d : D} {S : D → En} : kL (d, S) = if d.isF then some d else none := (rfl)
@[simp] theorem qL_ap {p : FL} : qL p e = (p e).bind kL := (rfl)
def kQBin (g : D → D → Option D) (b : FQ) (e : En) (x : D) : Option D := (b e).bind fun y => g (frz x) (frz y)
def kQBin2 (g : D → D → Option D) (x y : D) : Option D := g (frz x) (frz y)
@[simp] theorem kQBin2_ap {g : D → D → Option D} {x y : D} : kQBin2 g x y = g (frz x) (frz y) := (rfl)
@[simp] theorem kQBin_ap {g : D → D → Option D} {b : FQ} {x : D} : kQBin g b e x = (b e).bind (kQBin2 g x) := (rfl)
@[simp] theorem qBin_ap {g : D → D → Option D} {a b : FQ} : qBin g a b e = (a e).bind (kQBin g b e) := (rfl)
def kQIf (a b : FQ) (e : En) (k : Bool) : Option D := if k then a e else b e
@[simp] theorem kQIf_ap {a b : FQ} {k : Bool} : kQIf a b e k = if k then a e else b e := (rfl)
@[simp] theorem qIf_ap {c : En → Option Bool} {a b : FQ} : qIf c a b e = (c e).bind (kQIf a b e) := (rfl)
@[simp] theorem qTru_ap {a : FQ} : qTru a e = (a e).bind truD := (rfl)
def kCall1 (g : List D → Option D) (z : D × (D → En)) : Option D := g [z.1]
@[simp] theorem kCall1_ap {g : List D → Option D} {d : D} {S : D → En} : kCall1 g (d, S) = g [d] := (rfl)
@[simp] theorem qCall1_ap {g : List D → Option D} {p : FL} : qCall1 g p e = (p e).bind (kCall1 g) := (rfl)
@[simp] theorem lN_ap {i : Nat} : lN i ⟨sl, ex⟩ = match sl[i]? with
  | some (some d) => some (d, fun d' => ⟨sl.set i (some d'), ex⟩)
  | _ => none := (rfl)
def kAt (cs : List Str) (f : Str) (z : D × (D → En)) : Option (D × (D → En)) := match z.1 with
  | .nd (.ins c fn) o xs => if cs.contains c then (kpos fn f).bind fun j => (xs[j]?).map fun x => (x, fun x' => z.2 (.nd (.ins c fn) o (xs.set j x'))) else none
  | _ => none
def kAt2 (c : Str) (fn : List Str) (o : Bool) (xs : List D) (S : D → En) (j : Nat) : Option (D × (D → En)) := (xs[j]?).map fun x => (x, fun x' => S (.nd (.ins c fn) o (xs.set j x')))
@[simp] theorem kAt2_ap {c : Str} {fn : List Str} {o : Bool} {xs : List D} {S : D → En} {j : Nat} : kAt2 c fn o xs S j = (xs[j]?).map fun x => (x, fun x' => S (.nd (.ins c fn) o (xs.set j x'))) := (rfl)
@[simp] theorem kAt_ap {cs : List Str} {f c : Str} {fn : List Str} {o : Bool} {xs : List D} {S : D → En} : kAt cs f (.nd (.ins c fn) o xs, S) = if cs.contains c then (kpos fn f).bind (kAt2 c fn o xs S) else none := (rfl)
@[simp] theorem lAt_ap {cs : List Str} {p : FL} {f : Str} : lAt cs p f e = (p e).bind (kAt cs f) := (rfl)
def kIx (b : FQ) (e : En) (z : D × (D → En)) : Option (D × (D → En)) := (b e).bind fun y => match z.1 with
  | .nd k o xs => (cpos (.nd k o xs) (frz y)).bind fun j => (xs[j]?).map fun x => (x, fun x' => z.2 (.nd k o (xs.set j x')))
  | _ => none
def kIx3 (k : Kd) (o : Bool) (xs : List D) (S : D → En) (j : Nat) : Option (D × (D → En)) := (xs[j]?).map fun x => (x, fun x' => S (.nd k o (xs.set j x')))
@[simp] theorem kIx3_ap {k : Kd} {o : Bool} {xs : List D} {S : D → En} {j : Nat} : kIx3 k o xs S j = (xs[j]?).map fun x => (x, fun x' => S (.nd k o (xs.set j x'))) := (rfl)
def kIx2 (z : D × (D → En)) (y : D) : Option (D × (D → En)) := match z.1 with
  | .nd k o xs => (cpos (.nd k o xs) (frz y)).bind (kIx3 k o xs z.2)
  | _ => none
@[simp] theorem kIx2_ap {k : Kd} {o : Bool} {xs : List D} {S : D → En} {y : D} : kIx2 (.nd k o xs, S) y = (cpos (.nd k o xs) (frz y)).bind (kIx3 k o xs S) := (rfl)
@[simp] theorem kIx_ap {b : FQ} {z : D × (D → En)} : kIx b e z = (b e).bind (kIx2 z) := (rfl)
@[simp] theorem lIx_ap {p : FL} {b : FQ} : lIx p b e = (p e).bind (kIx b e) := (rfl)
def kQP : Option D → Option (Option Int)
  | some (.int i) => some (some i)
  | _ => none
@[simp] theorem kQP_int {i : Int} : kQP (some (.int i)) = some (some i) := (rfl)
@[simp] theorem qP_none : qP none e = some none := (rfl)
@[simp] theorem qP_some {a : FQ} : qP (some a) e = kQP (a e) := by
  unfold qP kQP; rfl
def kFl (z : D) : Option D := if flatZ z then some z else none
@[simp] theorem kFl_ap {z : D} : kFl z = if flatZ z then some z else none := (rfl)
def kSl3 (d : D) (l h : Option Int) : Option D := (sliceD (frz d) l h).bind kFl
@[simp] theorem kSl3_ap {d : D} {l h : Option Int} : kSl3 d l h = (sliceD (frz d) l h).bind kFl := (rfl)
def kSl2 (hi : Option FQ) (e : En) (d : D) (l : Option Int) : Option D := (qP hi e).bind (kSl3 d l)
@[simp] theorem kSl2_ap {hi : Option FQ} {d : D} {l : Option Int} : kSl2 hi e d l = (qP hi e).bind (kSl3 d l) := (rfl)
def kSl1 (lo hi : Option FQ) (e : En) (z : D × (D → En)) : Option D := (qP lo e).bind (kSl2 hi e z.1)
@[simp] theorem kSl1_ap {lo hi : Option FQ} {d : D} {S : D → En} : kSl1 lo hi e (d, S) = (qP lo e).bind (kSl2 hi e d) := (rfl)
@[simp] theorem qSl_ap {p : FL} {lo hi : Option FQ} : qSl p lo hi e = (p e).bind (kSl1 lo hi e) := (rfl)
def kAppL2 (xs : List D) (S : D → En) : Option D → Rs D
  | some d => if xs.length < lim then .ok .non (S (.nd .lst true (xs ++ [d]))) else .bad
  | none => .bad
@[simp] theorem kAppL2_some {xs : List D} {S : D → En} {d : D} : kAppL2 xs S (some d) = if xs.length < lim then .ok .non (S (.nd .lst true (xs ++ [d]))) else .bad := (rfl)
def kAppL (q : FQ) (e : En) : Option (D × (D → En)) → Rs D
  | some (.nd .lst true xs, S) => kAppL2 xs S (q e)
  | _ => .bad
@[simp] theorem kAppL_some {q : FQ} {xs : List D} {S : D → En} : kAppL q e (some (.nd .lst true xs, S)) = kAppL2 xs S (q e) := (rfl)
@[simp] theorem eAppL_ap {p : FL} {q : FQ} : eAppL p q e = kAppL q e (p e) := by
  unfold eAppL kAppL kAppL2
  rfl
@[simp] theorem ownI_ap {cs : List Str} {i : Nat} : En.ownI ⟨sl, ex⟩ cs i = match sl[i]? with
  | some (some (.nd (.ins c fn) true xs)) => if cs.contains c && decide (fn.length < 1000) then some (c, fn, xs) else none
  | _ => none := (rfl)
def kAtS2 (i : Nat) (f : Str) (d : D) (e1 : En) : Option (Str × List Str × List D) → So
  | some (c, fn, xs) => .nx (e1.put i (putFD c fn xs f d))
  | none => .bad
@[simp] theorem kAtS2_some {i : Nat} {f : Str} {d : D} {c : Str} {fn : List Str} {xs : List D} : kAtS2 i f d e (some (c, fn, xs)) = .nx (e.put i (putFD c fn xs f d)) := (rfl)
def kAtS (cs : List Str) (i : Nat) (f : Str) (d : D) (e1 : En) : So := kAtS2 i f d e1 (e1.ownI cs i)
@[simp] theorem kAtS_ap {cs : List Str} {i : Nat} {f : Str} {d : D} : kAtS cs i f d e = kAtS2 i f d e (e.ownI cs i) := (rfl)
@[simp] theorem fAtS_ap {cs : List Str} {i : Nat} {f : Str} {a : FE} : fAtS cs i f a e = (a e).toS (kAtS cs i f) := by
  unfold fAtS
  congr 1
def kAtA3 (i : Nat) (f : Str) (g : D → D → Option D) (c : Str) (d y : D) (e1 : En) : Option (Str × List Str × List D) → So
  | some (c', fn', xs') => if c' = c then (match g d (frz y) with
        | some z => .nx (e1.put i (putFD c' fn' xs' f z))
        | none => .bad) else .bad
  | none => .bad
@[simp] theorem kAtA3_some {i : Nat} {f : Str} {g : D → D → Option D} {c c' : Str} {d y : D} {fn' : List Str} {xs' : List D} : kAtA3 i f g c d y e (some (c', fn', xs')) = if c' = c then (match g d (frz y) with
        | some z => .nx (e.put i (putFD c' fn' xs' f z))
        | none => .bad) else .bad := (rfl)
def kAtA2 (cs : List Str) (i : Nat) (f : Str) (g : D → D → Option D) (c : Str) (d y : D) (e1 : En) : So := kAtA3 i f g c d y e1 (e1.ownI cs i)
@[simp] theorem kAtA2_ap {cs : List Str} {i : Nat} {f : Str} {g : D → D → Option D} {c : Str} {d y : D} : kAtA2 cs i f g c d y e = kAtA3 i f g c d y e (e.ownI cs i) := (rfl)
@[simp] theorem fAtAug_ap {cs : List Str} {i : Nat} {f : Str} {g : D → D → Option D} {a : FE} : fAtAug cs i f g a e = match e.ownI cs i with
  | some (c, fn, xs) => (match (kpos fn f).bind (xs[·]?) with
    | some d => if d.sc then (a e).toS (kAtA2 cs i f g c d) else .bad
    | none => .bad)
  | none => .bad := by
  unfold fAtAug
  cases e.ownI cs i with
  | none => rfl
  | some z =>
    dsimp only
    cases (kpos z.2.1 f).bind (z.2.2[·]?) with
    | none => rfl
    | some d =>
      dsimp only
      split
      · congr 1
      · rfl
@[simp] theorem eAtN_ap {cs : List Str} {i : Nat} {f : Str} : eAtN cs i f ⟨sl, ex⟩ = match sl[i]? with
  | some (some (.nd (.ins c fn) o xs)) => if cs.contains c then (match kpos fn f with
    | some j => (match xs[j]? with
      | some d => .ok (frz d) ⟨sl.set i (some (if o then .nd (.ins c fn) o (xs.set j (frz d)) else .nd (.ins c fn) o xs)), ex⟩
      | none => .bad)
    | none => .bad) else .bad
  | _ => .bad := (rfl)
def kMeth (c0 m : Str) (o : Option (Option D)) (r : Rs D) : Rs D := match o with
  | some (some (.nd (.ins c fn) _ _)) => if c = c0 ∧ kpos fn m = none then r else .bad
  | _ => .bad
@[simp] theorem kMeth_nd {c0 m c : Str} {fn : List Str} {o : Bool} {xs : List D} {r : Rs D} : kMeth c0 m (some (some (.nd (.ins c fn) o xs))) r = if c = c0 ∧ kpos fn m = none then r else .bad := (rfl)
@[simp] theorem eMeth_ap {c0 m : Str} {n i : Nat} {F : List D → CR} {as : FA} : eMeth c0 m n i F as ⟨sl, ex⟩ = kMeth c0 m (sl[i]?) (eCall n F (aIo i as) ⟨sl, ex⟩) := (rfl)
def newF (as : List AV) (e2 : En) : CR → Rs D
  | .ok .non (some d :: os) => callP d (putA as os e2)
  | .exc x (_ :: os) => callX x (putA as os e2)
  | _ => .bad
def newT (c0 : Str) (n : Nat) (F : List D → CR) (as : List AV) : Option (List D × En) → Rs D
  | some (ds, e2) => if ds.length = n then newF as e2 (F (.nd (.ins c0 []) true [] :: ds)) else .bad
  | none => .bad
@[simp] theorem newF_ok {as : List AV} {e2 : En} {d : D} {os : List (Option D)} : newF as e2 (.ok .non (some d :: os)) = callP d (putA as os e2) := (rfl)
@[simp] theorem newF_exc {as : List AV} {e2 : En} {x : Exc} {o : Option D} {os : List (Option D)} : newF as e2 (.exc x (o :: os)) = callX x (putA as os e2) := (rfl)
@[simp] theorem newT_some {c0 : Str} {n : Nat} {F : List D → CR} {as : List AV} {ds : List D} {e2 : En} : newT c0 n F as (some (ds, e2)) = if ds.length = n then newF as e2 (F (.nd (.ins c0 []) true [] :: ds)) else .bad := (rfl)
def kNew (c0 : Str) (n : Nat) (F : List D → CR) (as : List AV) (e1 : En) : Rs D := newT c0 n F as (takeA e1 as)
@[simp] theorem kNew_ap {c0 : Str} {n : Nat} {F : List D → CR} {as : List AV} : kNew c0 n F as e = newT c0 n F as (takeA e as) := (rfl)
@[simp] theorem eNew_ap {c0 : Str} {n : Nat} {F : List D → CR} {as : FA} : eNew c0 n F as e = (as e).bind (kNew c0 n F) := by
  unfold eNew
  congr 1
def kESl3 (x : D) (l h : Option Int) (e3 : En) : Rs D := .opt (sliceD (frz x) l h) e3
@[simp] theorem kESl3_ap {x : D} {l h : Option Int} : kESl3 x l h e = .opt (sliceD (frz x) l h) e := (rfl)
def kESl2 (hi : Option FE) (x : D) (l : Option Int) (e2 : En) : Rs D := (pE hi e2).bind (kESl3 x l)
@[simp] theorem kESl2_ap {hi : Option FE} {x : D} {l : Option Int} : kESl2 hi x l e = (pE hi e).bind (kESl3 x l) := (rfl)
def kESl1 (lo hi : Option FE) (x : D) (e1 : En) : Rs D := (pE lo e1).bind (kESl2 hi x)
@[simp] theorem kESl1_ap {lo hi : Option FE} {x : D} : kESl1 lo hi x e = (pE lo e).bind (kESl2 hi x) := (rfl)
@[simp] theorem eSl_ap {a : FE} {lo hi : Option FE} : eSl a lo hi e = (a e).bind (kESl1 lo hi) := (rfl)
def kPE (x : D) (e1 : En) : Rs (Option Int) := match x with
    | .int i => .ok (some i) e1
    | _ => .bad
@[simp] theorem kPE_int {i : Int} : kPE (.int i) e = .ok (some i) e := (rfl)
@[simp] theorem pE_none : pE none e = .ok none e := (rfl)
@[simp] theorem pE_some {a : FE} : pE (some a) e = (a e).bind kPE := (rfl)
def kTru (d : D) (e1 : En) : Rs Bool := .opt (truD d) e1
@[simp] theorem kTru_ap {d : D} : kTru d e = .opt (truD d) e := (rfl)
@[simp] theorem tTru_ap {a : FE} : tTru a e = (a e).bind kTru := (rfl)
end
@[simp] theorem frzs_app : ∀ {xs ys : List D}, frzs (xs ++ ys) = frzs xs ++ frzs ys
  | [], _ => rfl
  | x :: xs, ys => by rw [List.cons_append, frzs_cons, frzs_cons, frzs_app]; rfl
@[simp] theorem frzs_rep {d : D} : ∀ {n : Nat}, frzs (List.replicate n d) = List.replicate n (frz d)
  | 0 => rfl
  | n + 1 => by rw [List.replicate_succ, List.replicate_succ, frzs_cons, frzs_rep]
@[simp] theorem eKd_ap {t : List (Str × Int)} {b : FE} {e : En} : eKd t b e = (b e).bind (kKd t) := (rfl)
theorem kKd_ap {t : List (Str × Int)} {z : Str} {e : En} {v : Int} (h : tabL t z = some v) : kKd t (.str z) e = .ok (.int v) e := by
  unfold kKd; rw [frz_str]; dsimp only; rw [h]
@[simp] theorem repD_lst {o : Bool} {xs : List D} {k : Int} : repD (.nd .lst o xs) (.int k) = if decide (-4611686018427387904 < k) && decide (k < 4611686018427387904) && decide (xs.length * k.toNat ≤ lim) then some (.nd .lst true (List.replicate k.toNat xs).flatten) else none := (rfl)
def callVF (e : En) : CR → Rs D
  | .ok z _ => if flatZ z then .ok z e else .bad
  | .exc x _ => if x.xs.all D.sc then .exc x e else .bad
  | .bad => .bad
def callV (n : Nat) (F : List D → CR) (e : En) : Option (List D) → Rs D
  | some ds => if ds.length = n ∧ noDks ds = true then callVF e (F (frzs ds)) else .bad
  | none => .bad
def kCallV (n : Nat) (F : List D → CR) (as : List AV) (e : En) : Rs D := callV n F e (avs e as)
@[simp] theorem callVF_ok {z : D} {os : List (Option D)} {e : En} : callVF e (.ok z os) = if flatZ z then .ok z e else .bad := (rfl)
@[simp] theorem callVF_exc {x : Exc} {os : List (Option D)} {e : En} : callVF e (.exc x os) = if x.xs.all D.sc then .exc x e else .bad := (rfl)
@[simp] theorem callV_some {n : Nat} {F : List D → CR} {e : En} {ds : List D} : callV n F e (some ds) = if ds.length = n ∧ noDks ds = true then callVF e (F (frzs ds)) else .bad := (rfl)
@[simp] theorem kCallV_ap {n : Nat} {F : List D → CR} {as : List AV} {e : En} : kCallV n F as e = callV n F e (avs e as) := (rfl)
@[simp] theorem eCallV_ap {n : Nat} {F : List D → CR} {as : FA} {e : En} : eCallV n F as e = (as e).bind (kCallV n F) := by
  unfold eCallV
  congr 1
@[simp] theorem flatZ_int {i : Int} : flatZ (.int i) = true := (rfl)
@[simp] theorem flatZ_bl {i : Bool} : flatZ (.bl i) = true := (rfl)
@[simp] theorem flatZ_str {i : Str} : flatZ (.str i) = true := (rfl)
@[simp] theorem flatZ_non : flatZ .non = true := (rfl)
@[simp] theorem noDk_int {i : Int} : noDk (.int i) = true := by unfold noDk; rfl
@[simp] theorem noDk_bl {i : Bool} : noDk (.bl i) = true := by unfold noDk; rfl
@[simp] theorem noDk_str {i : Str} : noDk (.str i) = true := by unfold noDk; rfl
@[simp] theorem noDk_non : noDk .non = true := by unfold noDk; rfl
@[simp] theorem noDk_lst {o : Bool} {xs : List D} : noDk (.nd .lst o xs) = noDks xs := by unfold noDk; rfl
@[simp] theorem noDk_tup {o : Bool} {xs : List D} : noDk (.nd .tup o xs) = noDks xs := by unfold noDk; rfl
@[simp] theorem noDks_nil : noDks [] = true := by unfold noDks; rfl
@[simp] theorem noDks_cons {x : D} {xs : List D} : noDks (x :: xs) = (noDk x && noDks xs) := by rw [noDks]
@[simp] theorem noDks_app : ∀ {xs ys : List D}, noDks (xs ++ ys) = (noDks xs && noDks ys)
  | [], _ => by simp
  | x :: xs, ys => by rw [List.cons_append, noDks_cons, noDks_cons, noDks_app, Bool.and_assoc]
@[simp] theorem noDks_ints : ∀ {ms : List Int}, noDks (ms.map D.int) = true
  | [] => by simp
  | m :: ms => by rw [List.map_cons, noDks_cons, noDks_ints]; simp
def kChain3 (g' : D → D → Option D) (y w : D) (e : En) : Rs D := .opt (g' (frz y) (frz w)) e
@[simp] theorem kChain3_ap {g' : D → D → Option D} {y w : D} {e : En} : kChain3 g' y w e = .opt (g' (frz y) (frz w)) e := (rfl)
def kChainR (g' : D → D → Option D) (c : FE) (y : D) (e : En) : Option D → Rs D
  | some (.bl k) => if k then (c e).bind (kChain3 g' y) else .ok (.bl false) e
  | _ => .bad
@[simp] theorem kChainR_t {g' : D → D → Option D} {c : FE} {y : D} {e : En} : kChainR g' c y e (some (.bl true)) = (c e).bind (kChain3 g' y) := (rfl)
@[simp] theorem kChainR_f {g' : D → D → Option D} {c : FE} {y : D} {e : En} : kChainR g' c y e (some (.bl false)) = .ok (.bl false) e := (rfl)
@[simp] theorem kChainR_d {g' : D → D → Option D} {c : FE} {y : D} {e : En} {p : Prop} [Decidable p] : kChainR g' c y e (some (.bl (decide p))) = if p then (c e).bind (kChain3 g' y) else .ok (.bl false) e := by
  by_cases h : p <;> simp [h]
def kChain2 (g g' : D → D → Option D) (c : FE) (x y : D) (e : En) : Rs D := kChainR g' c y e (g (frz x) (frz y))
@[simp] theorem kChain2_ap {g g' : D → D → Option D} {c : FE} {x y : D} {e : En} : kChain2 g g' c x y e = kChainR g' c y e (g (frz x) (frz y)) := (rfl)
def kChain (g g' : D → D → Option D) (b c : FE) (x : D) (e : En) : Rs D := (b e).bind (kChain2 g g' c x)
@[simp] theorem kChain_ap {g g' : D → D → Option D} {b c : FE} {x : D} {e : En} : kChain g g' b c x e = (b e).bind (kChain2 g g' c x) := (rfl)
@[simp] theorem eChain_ap {g g' : D → D → Option D} {a b c : FE} {e : En} : eChain g g' a b c e = (a e).bind (kChain g g' b c) := by
  unfold eChain
  congr 1
@[simp] theorem addXD_tup {o o' : Bool} {xs ys : List D} : addXD (.nd .tup o xs) (.nd .tup o' ys) = if xs.length + ys.length ≤ lim then some (.nd .tup false (xs ++ ys)) else none := (rfl)
def kIdx2 (x y : D) (e : En) : Rs D := .opt (idxSD x (frz y)) e
@[simp] theorem kIdx2_ap {x y : D} {e : En} : kIdx2 x y e = .opt (idxSD x (frz y)) e := (rfl)
def kIdxF (a : FE) (e : En) : D → Rs D
  | .nd .lst o xs => (a e).bind (kIdx2 (.nd .lst o xs))
  | _ => .bad
@[simp] theorem kIdxF_lst {a : FE} {e : En} {o : Bool} {xs : List D} : kIdxF a e (.nd .lst o xs) = (a e).bind (kIdx2 (.nd .lst o xs)) := (rfl)
def kIdx (a : FE) (x : D) (e : En) : Rs D := kIdxF a e (frz x)
@[simp] theorem kIdx_ap {a : FE} {x : D} {e : En} : kIdx a x e = kIdxF a e (frz x) := (rfl)
@[simp] theorem eIdx_ap {o a : FE} {e : En} : eIdx o a e = (o e).bind (kIdx a) := by
  unfold eIdx
  congr 1
  funext x e1
  unfold kIdx kIdxF
  split
  · rename_i o' xs h
    rw [h]
    rfl
  · rename_i h
    first
      | rfl
      | (split
         · rename_i o' xs h2; exact absurd h2 (h o' xs)
         · rfl)
@[simp] theorem idxSD_lst {o : Bool} {xs : List D} {y : Str} : idxSD (.nd .lst o xs) (.str y) = (strsD xs).bind fun ss => (spos ss y).map fun (j : Nat) => D.int (j : Int) := (rfl)
@[simp] theorem eGIdx_ap {ss : List Str} {a : FE} {e : En} : eGIdx ss a e = (a e).bind (kGIdx ss) := (rfl)
theorem kGIdx_ap {ss : List Str} {z : Str} {j : Nat} {e : En} (h : spos ss z = some j) : kGIdx ss (.str z) e = .ok (.int (j : Int)) e := by
  unfold kGIdx; rw [frz_str]; dsimp only; rw [h]
def kExt2 (xs : List D) (S : D → En) : Option (D × (D → En)) → Rs D
  | some (.nd .lst _ ys, _) => if ys.all D.sc && decide (xs.length + ys.length ≤ lim) then .ok .non (S (.nd .lst true (xs ++ ys))) else .bad
  | _ => .bad
def kExt (q : FL) (e : En) : Option (D × (D → En)) → Rs D
  | some (.nd .lst true xs, S) => kExt2 xs S (q e)
  | _ => .bad
@[simp] theorem kExt_some {q : FL} {e : En} {xs : List D} {S : D → En} : kExt q e (some (.nd .lst true xs, S)) = kExt2 xs S (q e) := (rfl)
@[simp] theorem kExt2_some {xs ys : List D} {o : Bool} {S S' : D → En} : kExt2 xs S (some (.nd .lst o ys, S')) = if ys.all D.sc && decide (xs.length + ys.length ≤ lim) then .ok .non (S (.nd .lst true (xs ++ ys))) else .bad := (rfl)
@[simp] theorem eExtL_ap {p q : FL} {e : En} : eExtL p q e = kExt q e (p e) := by
  unfold eExtL kExt kExt2
  rfl
@[simp] theorem sc_all {ms : List Int} : (ms.map D.int).all D.sc = true := by
  rw [List.all_map, List.all_eq_true]; intro x _; rfl
def kEnT2 : List D → Option (List D)
  | [d] => (match d.seq with
    | some (false, xs) => some (enumD 0 xs)
    | _ => none)
  | _ => none
@[simp] theorem kEnT2_tup {o : Bool} {xs : List D} : kEnT2 [.nd .tup o xs] = some (enumD 0 xs) := (rfl)
def kEnT (as : List AV) (e : En) : Rs (List D) := .opt ((dvs as).bind fun ds => kEnT2 (frzs ds)) e
def kEnTf (ds : List D) : Option (List D) := kEnT2 (frzs ds)
@[simp] theorem kEnTf_ap {ds : List D} : kEnTf ds = kEnT2 (frzs ds) := (rfl)
@[simp] theorem kEnT_ap {as : List AV} {e : En} : kEnT as e = .opt ((dvs as).bind kEnTf) e := (rfl)
@[simp] theorem iEnT_ap {as : FA} {e : En} : iEnT as e = (as e).bind kEnT := by
  unfold iEnT
  congr 1
@[simp] theorem isF_int {i : Int} : (D.int i).isF = true := (rfl)
@[simp] theorem isF_bl {i : Bool} : (D.bl i).isF = true := (rfl)
@[simp] theorem isF_str {i : Str} : (D.str i).isF = true := (rfl)
@[simp] theorem isF_non : D.non.isF = true := (rfl)
@[simp] theorem isF_nd {k : Kd} {o : Bool} {xs : List D} : (D.nd k o xs).isF = !o := (rfl)
@[simp] theorem truD_bl {i : Bool} : truD (.bl i) = some i := (rfl)
@[simp] theorem truD_int {i : Int} : truD (.int i) = some (i != 0) := (rfl)
@[simp] theorem truD_non : truD .non = some false := (rfl)
@[simp] theorem truD_lst {o : Bool} {xs : List D} : truD (.nd .lst o xs) = some (!xs.isEmpty) := (rfl)
@[simp] theorem andD_int {i : Int} : andD (.int i) (.int 255) = some (.int (i % 256)) := (rfl)
@[simp] theorem listD_lst {o : Bool} {xs : List D} : listD [.nd .lst o xs] = some (.nd .lst true xs) := (rfl)
@[simp] theorem addD_lst {o o' : Bool} {xs ys : List D} : addD (.nd .lst o xs) (.nd .lst o' ys) = if xs.length + ys.length ≤ lim then some (.nd .lst true (xs ++ ys)) else none := by
  unfold addD; simp [D.seq]
@[simp] theorem sliceD_lst {o : Bool} {xs : List D} {lo hi : Option Int} : sliceD (.nd .lst o xs) lo hi = some (.nd .lst true (cutD xs lo hi)) := (rfl)
theorem cutD_upto {xs : List D} {k : Nat} (h : k ≤ xs.length) : cutD xs none (some (k : Int)) = xs.take k := by
  unfold cutD
  rw [HT.sIx_nat, HT.sIx_none, Nat.min_eq_left h]; rfl
theorem cutD_from {xs : List D} {k : Nat} (h : k ≤ xs.length) : cutD xs (some (k : Int)) none = xs.drop k := by
  unfold cutD
  rw [HT.sIx_nat, HT.sIx_none, Nat.min_eq_left h, List.take_of_length_le (by simp)]
theorem cutD_mid {xs : List D} {j k : Nat} (h : k ≤ xs.length) (h2 : j ≤ k) : cutD xs (some (j : Int)) (some (k : Int)) = (xs.take k).drop j := by
  unfold cutD
  rw [HT.sIx_nat, HT.sIx_nat, Nat.min_eq_left h, Nat.min_eq_left (Nat.le_trans h2 h), List.drop_take]
end Bx

set_option Elab.async false
set_option linter.all false
set_option maxRecDepth 100000
/-! What every law draws with: its stock of numbers, its own likeness. -/
namespace Lw
open PySem L2 Bx
def B_law_source : FS := (fSeq (fAsg (gN 2) (eIf (tTst (eBin ltD (eN 1) (eCallB lenD (aIo 0 aNil)))) (eCallB intD (aCons (eIxN 0 (eN 1)) aNil)) (eBin addD (eBin mulD (eC (.int 29)) (eCallB sumD (aCons (eLc [5] (iE (eSl (eN 0) none (some (eC (.int 6))))) (gN 5) tYesF (eBin modD (eCallB intD (aIo 5 aNil)) (eC (.int 999983)))) aNil))) (eC (.int 23))))) (fSeq (fAsg (gN 3) (eBin modD (eCallB absD (aIo 2 aNil)) (eBin mulD (eBin powD (eC (.int 10)) (eC (.int 60))) (eBin powD (eC (.int 10)) (eC (.int 60)))))) (fSeq (fAsg (gN 4) (eBin modD (eCallB intD (aCons (eBin addD (eBin addD (eBin addD (eBin mulD (eC (.int 2)) (eN 3)) (eIf (tTst (eBin ltD (eN 2) (eC (.int 0)))) (eC (.int 1)) (eC (.int 0)))) (eBin mulD (eN 1) (eC (.int 120121)))) (eC (.int 65537))) aNil)) (eC (.int 2147483629)))) (fRet (eLst (aCons (eIf (tTst (eBin geD (eN 3) (eBin powD (eC (.int 10)) (eC (.int 18))))) (eN 3) (eC (.int 0))) (aCons (eBin modD (eCallB intD (aCons (eBin mulD (eBin addD (eN 4) (eC (.int 6151))) (eBin addD (eN 4) (eC (.int 98317)))) aNil)) (eC (.int 2147483629))) (aCons (eN 1) aNil))))))))
def F_law_source : List D → CR := fDef 6 [] B_law_source
def B_law_pick : FS := (fSeq (fIf (tTst (eBin gtD (eIxN 0 (eC (.int 0))) (eC (.int 0)))) (fSeq (fAsg (gN 2) (eBin modD (eCallB intD (aCons (eIxN 0 (eC (.int 0))) aNil)) (eN 1))) (fSeq (fSetN 0 (eC (.int 0)) (eBin divD (eIxN 0 (eC (.int 0))) (eN 1))) (fRetV 2))) fNext) (fSeq (fAugN 0 addID (eC (.int 2)) (eC (.int 1))) (fSeq (fSetN 0 (eC (.int 1)) (eBin modD (eCallB intD (aCons (eBin addD (eBin mulD (eIxN 0 (eC (.int 1))) (eC (.int 48271))) (eBin mulD (eIxN 0 (eC (.int 2))) (eC (.int 60013)))) aNil)) (eC (.int 2147483647)))) (fRet (eBin modD (eBin divD (eBin modD (eCallB intD (aCons (eBin addD (eBin mulD (eIxN 0 (eC (.int 1))) (eC (.int 16807))) (eBin mulD (eIxN 0 (eC (.int 2))) (eC (.int 7411)))) aNil)) (eC (.int 2147483629))) (eC (.int 8))) (eN 1))))))
def F_law_pick : List D → CR := fDef 3 [0] B_law_pick
def F_law_same : Nat → List D → CR
  | 0 => fun _ => .bad
  | n + 1 => fDef 6 [] (fSeq (fIf (tTst (eCallB isiD (aIo 1 (aCons (eC (.ty "dict")) aNil)))) (fSeq (fAsg (gN 2) (eLc [3] (iE (eN 1)) (gN 3) tYesF (eLst (aCons (eN 3) (aCons (eIxN 1 (eN 3)) aNil))))) (fSeq (fIf (tOr (tNt (tTst (eCallB isiD (aIo 0 (aCons (eC (.ty "dict")) aNil))))) (tTst (eBin neD (eCallB lenD (aIo 0 aNil)) (eCallB lenD (aIo 1 aNil))))) (fRet (eC (.bl false))) fNext) (fRet (eCallB allD (aCons (eLc [3, 4] (iE (eN 2)) (gT 2 (gsCons (gN 3) (gsCons (gN 4) gsNil))) tYesF (eAnd (eBin inD (eN 3) (eN 0)) (eCall 2 (F_law_same n) (aCons (eIxN 0 (eN 3)) (aCons (eN 4) aNil))))) aNil))))) fNext) (fSeq (fIf (tTst (eCallB isiD (aIo 1 (aCons (eTup (aCons (eC (.ty "list")) (aCons (eC (.ty "tuple")) aNil))) aNil)))) (fSeq (fIf (tOr (tTst (eBin neD (eCallB isiD (aIo 1 (aCons (eC (.ty "list")) aNil))) (eCallB isiD (aIo 0 (aCons (eC (.ty "list")) aNil))))) (tTst (eBin neD (eCallB isiD (aIo 1 (aCons (eC (.ty "tuple")) aNil))) (eCallB isiD (aIo 0 (aCons (eC (.ty "tuple")) aNil)))))) (fRet (eC (.bl false))) fNext) (fRet (eAnd (eBin eqD (eCallB lenD (aIo 0 aNil)) (eCallB lenD (aIo 1 aNil))) (eCallB allD (aCons (eLc [5] (iRng1 (aCons (eCallB lenD (aIo 1 aNil)) aNil)) (gN 5) tYesF (eCall 2 (F_law_same n) (aCons (eIxN 0 (eN 5)) (aCons (eIxN 1 (eN 5)) aNil)))) aNil))))) fNext) (fRet (eAnd (eOr (eBin isD (eN 0) (eC .non)) (eCallB isiD (aIo 0 (aCons (eTup (aCons (eC (.ty "int")) (aCons (eC (.ty "str")) aNil))) aNil)))) (eBin eqD (eCallB reprD (aIo 0 aNil)) (eCallB reprD (aIo 1 aNil)))))))
/-- a stock: n picks are still free -/
def Stk (n : Nat) (s : D) : Prop := ∃ a b c : Int, s = .nd .lst true [.int a, .int b, .int c] ∧ 0 ≤ a ∧ 0 ≤ b ∧ b < 2147483647 ∧ 0 ≤ c ∧ c + n < 2 ^ 60
theorem pick_ok {n : Nat} {s : D} {m : Int} (h : Stk (n + 1) s) (hm : 0 < m) (hm2 : m < 2 ^ 60) : ∃ r s', F_law_pick [s, .int m] = .ok (.int r) [some s', none] ∧ 0 ≤ r ∧ r < m ∧ Stk n s' := by
  obtain ⟨a, b, c, rfl, ha, hb, hb2, hc, hcn⟩ := h
  have m1 : mulOk b 48271 = true := mulOk_60 (by omega) (by decide)
  have m2 : mulOk (c + 1) 60013 = true := mulOk_60 (by omega) (by decide)
  have m3 : mulOk ((b * 48271 + (c + 1) * 60013) % 2147483647) 16807 = true := mulOk_60 (by omega) (by decide)
  have m4 : mulOk (c + 1) 7411 = true := mulOk_60 (by omega) (by decide)
  unfold F_law_pick fDef B_law_pick
  by_cases h0 : 0 < a
  · have m5 : m.natAbs < 1152921504606846976 := by omega
    simp [fSeq, h0, ixN, hm, m5, outs]
    refine ⟨_, _, ⟨rfl, rfl⟩, Int.emod_nonneg _ (by omega), Int.emod_lt_of_pos _ hm, _, _, _, rfl, Int.ediv_nonneg ha (by omega), hb, hb2, hc, by omega⟩
  · simp [fSeq, h0, ixN, hm, m1, m2, m3, m4, outs]
    refine ⟨_, _, ⟨rfl, rfl⟩, Int.emod_nonneg _ (by omega), Int.emod_lt_of_pos _ hm, _, _, _, rfl, ha, Int.emod_nonneg _ (by omega), Int.emod_lt_of_pos _ (by omega), by omega, by omega⟩
theorem cutD_ints {ns : List Int} {lo hi : Option Int} : ∃ ms : List Int, cutD (ns.map D.int) lo hi = ms.map D.int ∧ ms.length ≤ ns.length := by
  unfold cutD
  refine ⟨List.take (HT.sIx (ns.map D.int).length (ns.map D.int).length hi - HT.sIx (ns.map D.int).length 0 lo) (List.drop (HT.sIx (ns.map D.int).length 0 lo) ns), by rw [List.map_take, List.map_drop], ?_⟩
  rw [List.length_take, List.length_drop]
  omega
theorem source_ok {ns : List Int} {k : Int} (hl : ns.length ≤ 63) (hk : 0 ≤ k) (hk2 : k ≤ 100000) : ∃ s, F_law_source [.nd .wl false (ns.map D.int), .int k] = .ok s [none, none] ∧ Stk (2 ^ 59) s := by
  obtain ⟨ms, hm, hml⟩ := cutD_ints (ns := ns) (lo := none) (hi := some 6)
  have hc : lcL [5] (gN 5) tYesF (eBin modD (eCallB intD (aIo 5 aNil)) (eC (.int 999983))) (ms.map D.int) [] ⟨[some (.nd .wl false (ns.map D.int)), some (.int k), none, none, none, none], none⟩ = .ok ((ms.map fun i : Int => i % 999983).map D.int) ⟨[some (.nd .wl false (ns.map D.int)), some (.int k), none, none, none, none], none⟩ := by
    have h := lcL_map (vs := [5]) (g := gN 5) (tt := tYesF) (el := eBin modD (eCallB intD (aIo 5 aNil)) (eC (.int 999983))) (base := ⟨[some (.nd .wl false (ns.map D.int)), some (.int k), none, none, none, none], none⟩) (y := fun d => match d with | .int i => .int (i % 999983) | d => d) (xs := ms.map D.int) (acc := []) (fun x hx => by
      obtain ⟨i, _, rfl⟩ := List.mem_map.mp hx
      exact ⟨_, _, _, by simp; rfl, rfl, by simp; rfl, by simp⟩) (by simp [lim]; omega)
    rw [h, List.nil_append, List.map_map, List.map_map]
    rfl
  have hsum : 0 ≤ (ms.map fun i : Int => i % 999983).sum ∧ (ms.map fun i : Int => i % 999983).sum ≤ 999983 * (ms.map fun i : Int => i % 999983).length := by
   refine sum_bound (B := 999983) (ns := ms.map fun i : Int => i % 999983) fun x hx => ?_
   · obtain ⟨i, _, rfl⟩ := List.mem_map.mp hx
     exact ⟨Int.emod_nonneg _ (by decide), Int.le_of_lt (Int.emod_lt_of_pos _ (by decide))⟩
  rw [List.length_map] at hsum
  have m1 : mulOk 29 (ms.map fun i : Int => i % 999983).sum = true := mulOk_60 (by decide) (by omega)
  unfold F_law_source
  refine RT.go0 ?_
  unfold B_law_source
  have hs : ∃ cell : Int, (fAsg (gN 2) (eIf (tTst (eBin ltD (eN 1) (eCallB lenD (aIo 0 aNil)))) (eCallB intD (aCons (eIxN 0 (eN 1)) aNil)) (eBin addD (eBin mulD (eC (.int 29)) (eCallB sumD (aCons (eLc [5] (iE (eSl (eN 0) none (some (eC (.int 6))))) (gN 5) tYesF (eBin modD (eCallB intD (aIo 5 aNil)) (eC (.int 999983)))) aNil))) (eC (.int 23))))) ⟨[some (.nd .wl false (ns.map D.int)), some (.int k), none, none, none, none], none⟩ = .nx ⟨[some (.nd .wl false (ns.map D.int)), some (.int k), some (.int cell), none, none, none], none⟩ := by
    by_cases hlt : k < ns.length
    · have hx : ixN ns.length k = some k.toNat := by unfold ixN; simp [hk, hlt]
      have h0 : k.toNat < ns.length := by omega
      simp [hlt, hx, h0]
    · simp [hlt, eSl, pE, sliceD, D.seq, hm]
      rw [hc]
      simp [m1, -List.map_map]
  obtain ⟨cell, hs⟩ := hs
  refine seq_go _ hs ?_
  have m2 : mulOk 1000000000000000000000000000000000000000000000000000000000000 1000000000000000000000000000000000000000000000000000000000000 = true := by decide +kernel
  have hp : (0 : Int) < 1000000000000000000000000000000000000000000000000000000000000000000000000000000000000000000000000000000000000000000000000 := by decide +kernel
  refine seq_goE ⟨⟨[some (.nd .wl false (ns.map D.int)), some (.int k), some (.int cell), some (.int ((if cell < 0 then -cell else cell) % 1000000000000000000000000000000000000000000000000000000000000000000000000000000000000000000000000000000000000000000000000)), none, none], none⟩, ?_, ?_⟩
  · simp [m2, hp]
  generalize hz : (if cell < 0 then -cell else cell) % 1000000000000000000000000000000000000000000000000000000000000000000000000000000000000000000000000000000000000000000000000 = size
  have z0 : 0 ≤ size := by rw [← hz]; exact Int.emod_nonneg _ (by omega)
  have z1 : size < 1000000000000000000000000000000000000000000000000000000000000000000000000000000000000000000000000000000000000000000000000 := by rw [← hz]; exact Int.emod_lt_of_pos _ hp
  have m3 : mulOk 2 size = true := mulOk_of (Nat.lt_of_lt_of_le (by decide : 2 < 2 ^ 2) (Nat.pow_le_pow_right (by decide) (by decide)))
    (Nat.lt_of_lt_of_le (by have h3 : 1000000000000000000000000000000000000000000000000000000000000000000000000000000000000000000000000000000000000000000000000 ≤ 2 ^ 400 := by decide +kernel
                            omega) (Nat.pow_le_pow_right (by decide) (by decide : 400 ≤ 400000)))
  have m4 : mulOk k 120121 = true := mulOk_60 (by omega) (by decide)
  have hb : ∃ b : Int, 2 * size + (if cell < 0 then 1 else 0) + k * 120121 + 65537 = b := ⟨_, rfl⟩
  obtain ⟨b, hb⟩ := hb
  refine seq_goE ⟨⟨[some (.nd .wl false (ns.map D.int)), some (.int k), some (.int cell), some (.int size), some (.int (b % 2147483629)), none], none⟩, ?_, ?_⟩
  · subst hb
    by_cases h0 : cell < 0 <;> simp [m3, m4, h0]
  have q0 : 0 ≤ b % 2147483629 := Int.emod_nonneg _ (by decide)
  have q1 : b % 2147483629 < 2147483629 := Int.emod_lt_of_pos _ (by decide)
  generalize b % 2147483629 = small at q0 q1 ⊢
  have m5 : mulOk (small + 6151) (small + 98317) = true := mulOk_60 (by omega) (by omega)
  by_cases h0 : 1000000000000000000 ≤ size
  · refine ⟨_, _, by simp [m5, h0, lim]; exact ⟨rfl, rfl⟩, ?_⟩
    refine ⟨_, _, _, rfl, by omega, Int.emod_nonneg _ (by decide), ?_, hk, by omega⟩
    have := Int.emod_lt_of_pos ((small + 6151) * (small + 98317)) (by decide : (0 : Int) < 2147483629)
    omega
  · refine ⟨_, _, by simp [m5, h0, lim]; exact ⟨rfl, rfl⟩, ?_⟩
    refine ⟨_, _, _, rfl, by omega, Int.emod_nonneg _ (by decide), ?_, hk, by omega⟩
    have := Int.emod_lt_of_pos ((small + 6151) * (small + 98317)) (by decide : (0 : Int) < 2147483629)
    omega
theorem strOk_ofString (s : String) : PyData.strOk (Str.ofString s) = true := by
  unfold PyData.strOk
  rw [Str.ofString_eq_toList]
  simp
  intro c _
  rcases c.valid with h | ⟨_, h⟩
  · exact Nat.lt_trans h (by decide)
  · exact h
theorem eqD_int {i j : Int} : eqD (.int i) (.int j) = some (.bl (i == j)) := by
  simp [eqD, eqOk, pyd, SeqAt.shaped, PyData.eqv, PyData.canLay0, PyData.depth]
theorem neD_int {i j : Int} : neD (.int i) (.int j) = some (.bl (!(i == j))) := by
  simp [neD, eqOk, pyd, SeqAt.shaped, PyData.eqv, PyData.canLay0, PyData.depth]
theorem neD_bl {i j : Bool} : neD (.bl i) (.bl j) = some (.bl (!(i == j))) := by
  simp [neD, eqOk, pyd, SeqAt.shaped, PyData.eqv, PyData.canLay0, PyData.depth]
theorem eqD_str {i j : Str} (hi : PyData.strOk i = true) (hj : PyData.strOk j = true) : eqD (.str i) (.str j) = some (.bl (i == j)) := by
  simp [eqD, eqOk, pyd, SeqAt.shaped, PyData.eqv, PyData.canLay0, PyData.depth, hi, hj]
/-- a comprehension without tests, an invariant kept -/
theorem lcL_inv {vs : List Nat} {g : FG} {tt : FT} {el : FE} {I : En → Prop} {y : D → D} : ∀ {xs acc : List D} {e : En}, I e → (∀ x ∈ xs, ∀ e, I e → ∃ e1 e2 e3, g x e = some e1 ∧ tt e1 = .ok true e2 ∧ el e2 = .ok (y x) e3 ∧ I (delL e3 vs)) → acc.length + xs.length ≤ lim →
    ∃ e', lcL vs g tt el xs acc e = .ok (acc ++ xs.map y) e' ∧ I e'
  | [], acc, e, hi, _, _ => ⟨e, by rw [List.map_nil, List.append_nil]; rfl, hi⟩
  | x :: xs, acc, e, hi, h, hl => by
    obtain ⟨e1, e2, e3, h1, h2, h3, h4⟩ := h x List.mem_cons_self e hi
    rw [List.length_cons] at hl
    obtain ⟨e', ih, hi'⟩ := lcL_inv (xs := xs) (acc := acc ++ [y x]) h4 (fun z hz => h z (List.mem_cons_of_mem _ hz)) (by simp; omega)
    refine ⟨e', ?_, hi'⟩
    unfold lcL
    rw [h1]; dsimp only
    rw [h2, Rs.nox_ok, Rs.bind_ok, if_pos rfl, h3, Rs.nox_ok, Rs.bind_ok, if_pos (by omega), ih]
    simp
/-- what _law_same looks through, at most n levels -/
def okS : Nat → D → Bool
  | 0, _ => false
  | n + 1, d => match d with
    | .non => true
    | .bl _ => true
    | .int i => decide (i.natAbs.log2 < 1920)
    | .str x => decide ((reprText x).length ≤ 16000000) && PyData.strOk (reprText x)
    | .nd .lst _ xs => decide (xs.length < 2 ^ 20) && xs.all (okS n)
    | .nd .tup _ xs => decide (xs.length < 2 ^ 20) && xs.all (okS n)
    | _ => false
theorem frz_sc {a b : D} (h : frz a = frz b) (hb : b.sc = true) : a = b := by
  cases b with
  | nd _ _ _ => cases hb
  | _ => cases a <;> simp_all
theorem frz_seq {a : D} {k : Kd} {o : Bool} {xs : List D} (h : frz a = frz (.nd k o xs)) : ∃ o' ys, a = .nd k o' ys ∧ frzs ys = frzs xs := by
  cases a with
  | nd k' o' ys =>
    rw [frz_nd, frz_nd] at h
    injection h with h1 h2 h3
    subst h1
    exact ⟨o', ys, rfl, h3⟩
  | _ => simp at h
theorem frzs_at : ∀ {xs : List D} {i : Nat}, (frzs xs)[i]? = (xs[i]?).map frz
  | [], _ => rfl
  | x :: xs, 0 => rfl
  | x :: xs, i + 1 => by rw [frzs_cons, List.getElem?_cons_succ, List.getElem?_cons_succ, frzs_at]
theorem same_sc {n : Nat} {d : D} (hd : d.sc = true) (h : okS (n + 1) d = true) : F_law_same (n + 1) [d, d] = .ok (.bl true) [none, none] := by
  unfold F_law_same
  cases d with
  | nd _ _ _ => cases hd
  | ty _ => simp [okS] at h
  | int i =>
    have h' : i.natAbs.log2 < 1920 := by simpa [okS] using h
    simp [lim, fDef, fSeq, isiD, tyD, tyNs, subT, tysD, isD, reprD, eqD_str, h', strOk_ofString]
  | non => 
    simp [lim, fDef, fSeq, isiD, tyD, tyNs, subT, tysD, isD, reprD, eqD_str, strOk_ofString]
  | bl k =>
    cases k <;> simp [lim, fDef, fSeq, isiD, tyD, tyNs, subT, tysD, isD, reprD, eqD_str, strOk_ofString]
  | str x => 
    have h' : (reprText x).length ≤ 16000000 ∧ PyData.strOk (reprText x) = true := by simpa [okS] using h
    simp [lim, fDef, fSeq, isiD, tyD, tyNs, subT, tysD, isD, reprD, eqD_str, h'.1, h'.2]
theorem frzs_map : ∀ xs : List D, frzs xs = xs.map frz
  | [] => rfl
  | x :: xs => by rw [frzs_cons, List.map_cons, frzs_map xs]
theorem frzs_set {xs : List D} {i : Nat} {d : D} (h : xs[i]? = some d) : frzs (xs.set i (frz d)) = frzs xs := by
  apply List.ext_getElem?
  intro j
  rw [frzs_at, frzs_at, List.getElem?_set]
  split
  · rename_i e
    subst e
    have hl : i < xs.length := (List.getElem?_eq_some_iff.mp h).1
    rw [if_pos hl, h, Option.map_some, Option.map_some, frz_frz]
  · rfl
theorem okS_frz : ∀ (n : Nat) (d : D), okS n (frz d) = okS n d
  | 0, _ => rfl
  | n + 1, d => by
    cases d with
    | nd k o xs =>
      have h : (frzs xs).all (okS n) = xs.all (okS n) := by
        rw [frzs_map, List.all_map]
        congr 1
        funext x
        exact okS_frz n x
      rw [frz_nd]
      cases k <;> simp [okS, h, frzs_len]
    | _ => rfl
theorem same_seq {n : Nat} {k : Kd} (hk : k = .lst ∨ k = .tup) (ih : ∀ a b, frz a = frz b → okS n b = true → F_law_same n [a, b] = .ok (.bl true) [none, none]) {o o' : Bool} {xs ys : List D} (he : frzs ys = frzs xs) (hl : xs.length < 2 ^ 20) (hx : ∀ x ∈ xs, okS n x = true) :
    F_law_same (n + 1) [.nd k o' ys, .nd k o xs] = .ok (.bl true) [none, none] := by
  have hlen : ys.length = xs.length := by rw [← frzs_len ys, he, frzs_len]
  have hr : (xs.length : Int) < 4611686018427387904 := by omega
  have hr0 : -4611686018427387904 < (xs.length : Int) := by omega
  have key : ∃ e', lcL [5] (gN 5) tYesF (eCall 2 (F_law_same n) (aCons (eIxN 0 (eN 5)) (aCons (eIxN 1 (eN 5)) aNil))) (rngD 0 xs.length) [] ⟨[some (.nd k o' ys), some (.nd k o xs), none, none, none, none], none⟩ = .ok ([] ++ (rngD 0 xs.length).map fun _ => .bl true) e' ∧ ∃ o1 ys1 o2 xs1, e' = ⟨[some (.nd k o1 ys1), some (.nd k o2 xs1), none, none, none, none], none⟩ ∧ frzs ys1 = frzs xs ∧ frzs xs1 = frzs xs := by
    refine lcL_inv (I := fun e => ∃ o1 ys1 o2 xs1, e = ⟨[some (.nd k o1 ys1), some (.nd k o2 xs1), none, none, none, none], none⟩ ∧ frzs ys1 = frzs xs ∧ frzs xs1 = frzs xs) ⟨o', ys, o, xs, rfl, he, rfl⟩ (fun x hxm e hI => ?_) (by simp [rngD, lim]; omega)
    obtain ⟨o1, ys1, o2, xs1, rfl, h1, h2⟩ := hI
    obtain ⟨i, hi, rfl⟩ := List.mem_map.mp hxm
    have hi := List.mem_range.mp hi
    have l1 : ys1.length = xs.length := by rw [← frzs_len ys1, h1, frzs_len]
    have l2 : xs1.length = xs.length := by rw [← frzs_len xs1, h2, frzs_len]
    obtain ⟨d, hd⟩ : ∃ d, xs[i]? = some d := ⟨_, List.getElem?_eq_getElem hi⟩
    obtain ⟨d1, hd1⟩ : ∃ d, ys1[i]? = some d := ⟨_, List.getElem?_eq_getElem (by omega)⟩
    obtain ⟨d2, hd2⟩ : ∃ d, xs1[i]? = some d := ⟨_, List.getElem?_eq_getElem (by omega)⟩
    have f1 : frz d1 = frz d := by
      have := congrArg (·[i]?) h1
      simp only [frzs_at, hd, hd1, Option.map_some] at this
      exact Option.some.inj this
    have f2 : frz d2 = frz d := by
      have := congrArg (·[i]?) h2
      simp only [frzs_at, hd, hd2, Option.map_some] at this
      exact Option.some.inj this
    have i1 : ixN ys1.length (i : Int) = some i := ixN_nat (by omega)
    have i2 : ixN xs1.length (i : Int) = some i := ixN_nat (by omega)
    have g1 : okS n (frz d2) = true := by rw [f2, okS_frz]; exact hx d (List.mem_of_getElem? hd)
    have hq := ih (frz d1) (frz d2) (by rw [frz_frz, frz_frz, f1, f2]) g1
    have c1 : ∀ o ys, cpos (.nd k o ys) (.int (i : Int)) = ixN ys.length (i : Int) := fun o ys => by rcases hk with rfl | rfl <;> rfl
    cases o1 <;> cases o2
    · exact ⟨_, _, _, by simp; rfl, rfl, by simp [c1, i1, i2, hd1, hd2, hq]; rfl, false, ys1, false, xs1, by simp, h1, h2⟩
    · exact ⟨_, _, _, by simp; rfl, rfl, by simp [c1, i1, i2, hd1, hd2, hq]; rfl, false, ys1, true, xs1.set i (frz d2), by simp, h1, by rw [frzs_set hd2, h2]⟩
    · exact ⟨_, _, _, by simp; rfl, rfl, by simp [c1, i1, i2, hd1, hd2, hq]; rfl, true, ys1.set i (frz d1), false, xs1, by simp, by rw [frzs_set hd1, h1], h2⟩
    · exact ⟨_, _, _, by simp; rfl, rfl, by simp [c1, i1, i2, hd1, hd2, hq]; rfl, true, ys1.set i (frz d1), true, xs1.set i (frz d2), by simp, by rw [frzs_set hd1, h1], by rw [frzs_set hd2, h2]⟩
  obtain ⟨e', hk', o1, ys1, o2, xs1, rfl, _, _⟩ := key
  have hall : ((rngD 0 xs.length).map fun _ => D.bl true) = (List.replicate xs.length true).map D.bl := by
    rw [List.map_replicate]
    unfold rngD
    rw [List.map_map, List.eq_replicate_iff]
    refine ⟨by simp, fun b hb => ?_⟩
    obtain ⟨_, _, rfl⟩ := List.mem_map.mp hb
    rfl
  rw [List.nil_append, hall] at hk'
  unfold F_law_same
  rcases hk with rfl | rfl
  · simp [lim, fDef, fSeq, isiD, tyD, tyNs, subT, tysD, neD_bl, eqD_int, hlen, hr, hr0, hk', -List.map_replicate]
  · simp [lim, fDef, fSeq, isiD, tyD, tyNs, subT, tysD, neD_bl, eqD_int, hlen, hr, hr0, hk', -List.map_replicate]
theorem same_ok : ∀ (n : Nat) (a b : D), frz a = frz b → okS n b = true → F_law_same n [a, b] = .ok (.bl true) [none, none]
  | 0, _, _, _, h => by simp [okS] at h
  | n + 1, a, b, he, h => by
    by_cases hb : b.sc = true
    · rw [frz_sc he hb]; exact same_sc hb h
    · cases b with
      | nd k o xs =>
        obtain ⟨o', ys, rfl, hf⟩ := frz_seq he
        cases k with
        | lst =>
          have h' : xs.length < 2 ^ 20 ∧ ∀ x ∈ xs, okS n x = true := by simpa [okS] using h
          exact same_seq (.inl rfl) (same_ok n) hf h'.1 h'.2
        | tup =>
          have h' : xs.length < 2 ^ 20 ∧ ∀ x ∈ xs, okS n x = true := by simpa [okS] using h
          exact same_seq (.inr rfl) (same_ok n) hf h'.1 h'.2
        | _ => simp [okS] at h
      | _ => exact absurd rfl hb
end Lw

set_option Elab.async false
set_option linter.all false
set_option maxRecDepth 100000
set_option maxHeartbeats 4000000
/-! The framer, and the law's own frames. -/
namespace Lw
open PySem L2 Bx
def fl_body : List Str := ["Framer"]
def fl_many : List Str := ["Framer"]
def fl_waits : List Str := ["Framer"]
def B_law_octet : FS := (fSeq (fIf (tTst (eBin eqD (eCall 2 F_law_pick (aIo 0 (aCons (eC (.int 2)) aNil))) (eC (.int 0)))) (fRet (eBin addD (eC (.int 123)) (eCall 2 F_law_pick (aIo 0 (aCons (eC (.int 6)) aNil))))) fNext) (fRet (eCall 2 F_law_pick (aIo 0 (aCons (eC (.int 256)) aNil)))))
def F_law_octet : List D → CR := fDef 1 [0] B_law_octet
def B_law_message : FS := (fRet (eLc [2] (iRng1 (aCons (eCall 2 F_law_pick (aIo 0 (aCons (eBin addD (eN 1) (eC (.int 1))) aNil))) aNil)) (gN 2) tYesF (eCall 1 F_law_octet (aIo 0 aNil))))
def F_law_message : List D → CR := fDef 3 [0] B_law_message
def B_law_escaped : FS := (fSeq (fAsg (gN 1) (eLst (aCons (eC (.int 126)) aNil))) (fSeq (fFor (iE (eN 0)) (gN 2) (fIf (tOr (tTst (eBin eqD (eN 2) (eC (.int 125)))) (tTst (eBin eqD (eN 2) (eC (.int 126))))) (fSeq (fExpr (eAppN 1 (eC (.int 125)))) (fExpr (eAppN 1 (eBin subD (eN 2) (eC (.int 125)))))) (fExpr (eAppN 1 (eN 2))))) (fRetV 1)))
def F_law_escaped : List D → CR := fDef 3 [] B_law_escaped
def B_law_frame : FS := (fSeq (fAsg (gN 3) (eBin addD (eLst (aCons (eBin addD (eCallB lenD (aIo 2 aNil)) (eC (.int 3))) (aCons (eN 0) (aCons (eN 1) aNil)))) (eCallF listD (aCons (eN 2) aNil)))) (fRet (eCall 1 F_law_escaped (aCons (eBin addD (eN 3) (eLst (aCons (eBin modD (eCallB intD (aCons (eCallB sumD (aCons (eSl (eN 3) (some (eC (.int 1))) none) aNil)) aNil)) (eC (.int 256))) aNil))) aNil))))
def F_law_frame : List D → CR := fDef 4 [] B_law_frame
def B_low_octet : FS := (fRet (eBin andD (eN 0) (eC (.int 255))))
def F_low_octet : List D → CR := fDef 1 [] B_low_octet
def B_Framer_dropped : FS := (fSeq (fAtS fl_many 0 "many" (eC (.int 0))) (fSeq (fAtS fl_waits 0 "waits" (eC (.bl false))) (fRet (eC (.bl false)))))
def F_Framer_dropped : List D → CR := fDef 1 [0] B_Framer_dropped
def T_Framer_taken : FS := (fSeq (fAtS fl_waits 0 "waits" (eC (.bl false))) (fSeq (fIf (tOr (tTst (eBin ltD (eQ (qL (lIx (lAt fl_body (lN 0) "body") (qC (.int 0))))) (eC (.int 3)))) (tTst (eBin gtD (eQ (qL (lIx (lAt fl_body (lN 0) "body") (qC (.int 0))))) (eC (.int 123))))) (fRet (eMeth "Framer" "dropped" 1 0 F_Framer_dropped aNil)) fNext) (fSeq (fIf (tTst (eBin leD (eQ (qCall1 lenD (lAt fl_body (lN 0) "body"))) (eQ (qL (lIx (lAt fl_body (lN 0) "body") (qC (.int 0))))))) (fRet (eC (.bl false))) fNext) (fSeq (fAtS fl_many 0 "many" (eC (.int 0))) (fRet (eBin eqD (eCall 1 F_low_octet (aCons (eCallB sumD (aCons (eQ (qSl (lAt fl_body (lN 0) "body") (some (qC (.int 1))) (some (qL (lIx (lAt fl_body (lN 0) "body") (qC (.int 0))))))) aNil)) aNil)) (eQ (qL (lIx (lAt fl_body (lN 0) "body") (qL (lIx (lAt fl_body (lN 0) "body") (qC (.int 0)))))))))))))
def B_Framer_taken : FS := (fSeq (fIf (tTst (eBin eqD (eN 1) (eC (.int 126)))) (fSeq (fAtS fl_body 0 "body" (eLst aNil)) (fSeq (fAtS fl_waits 0 "waits" (eC (.bl false))) (fSeq (fAtS fl_many 0 "many" (eC (.int 1))) (fRet (eC (.bl false)))))) fNext) (fSeq (fIf (tTst (eBin eqD (eQ (qL (lAt fl_many (lN 0) "many"))) (eC (.int 0)))) (fRet (eC (.bl false))) fNext) (fSeq (fAtAug fl_many 0 "many" addID (eC (.int 1))) (fSeq (fIf (tAnd (tTru (eQ (qL (lAt fl_waits (lN 0) "waits")))) (tTst (eBin gtD (eN 1) (eC (.int 1))))) (fRet (eMeth "Framer" "dropped" 1 0 F_Framer_dropped aNil)) fNext) (fSeq (fIf (tAnd (tTst (eBin eqD (eN 1) (eC (.int 125)))) (tNt (tTru (eQ (qL (lAt fl_waits (lN 0) "waits")))))) (fSeq (fAtS fl_waits 0 "waits" (eC (.bl true))) (fRet (eC (.bl false)))) fNext) (fSeq (fExpr (eAppL (lAt fl_body (lN 0) "body") (qIf (qTru (qL (lAt fl_waits (lN 0) "waits"))) (qBin addD (qC (.int 125)) (qL (lN 1))) (qL (lN 1))))) T_Framer_taken))))))
def F_Framer_taken : List D → CR := fDef 2 [0] B_Framer_taken
def B_Framer_feed : FS := (fSeq (fAsg (gN 2) (eLst aNil)) (fSeq (fFor (iE (eN 1)) (gN 3) (fIf (tTru (eMeth "Framer" "taken" 2 0 F_Framer_taken (aCons (eN 3) aNil))) (fSeq (fAsg (gN 4) (eAtN fl_body 0 "body")) (fExpr (eAppN 2 (eTup (aCons (eIxN 4 (eC (.int 1))) (aCons (eIxN 4 (eC (.int 2))) (aCons (eSl (eN 4) (some (eC (.int 3))) (some (eBin subD (eCallB lenD (aIo 4 aNil)) (eC (.int 1))))) aNil))))))) fNext)) (fRetV 2)))
def F_Framer_feed : List D → CR := fDef 5 [0] B_Framer_feed
def B_Framer___init__ : FS := (fSeq (fAtS fl_body 0 "body" (eLst aNil)) (fSeq (fAtS fl_waits 0 "waits" (eC (.bl false))) (fAtS fl_many 0 "many" (eC (.int 0)))))
def F_Framer___init__ : List D → CR := fDef 1 [0] B_Framer___init__
def B_Framer_pending : FS := (fRet (eQ (qL (lAt fl_many (lN 0) "many"))))
def F_Framer_pending : List D → CR := fDef 1 [0] B_Framer_pending
/-- a framer's state -/
structure Fm where
  b : List Int
  o : Bool
  w : Bool
  m : Int
def Fm.d (s : Fm) : D := .nd (.ins "Framer" ["body", "waits", "many"]) true [.nd .lst s.o (s.b.map D.int), .bl s.w, .int s.m]
def b0 (b : List Int) : Int := (b[0]?).getD 0
def stp (s : Fm) (x : Int) : Fm × Bool :=
  if x = 126 then (⟨[], true, false, 1⟩, false)
  else if s.m = 0 then (s, false)
  else if s.w = true ∧ 1 < x then (⟨s.b, s.o, false, 0⟩, false)
  else if x = 125 ∧ s.w = false then (⟨s.b, s.o, true, s.m + 1⟩, false)
  else let b' := s.b ++ [if s.w then 125 + x else x]
    if b0 b' < 3 ∨ 123 < b0 b' then (⟨b', s.o, false, 0⟩, false)
    else if (b'.length : Int) ≤ b0 b' then (⟨b', s.o, false, s.m + 1⟩, false)
    else (⟨b', s.o, false, 0⟩, ((b'.take (b0 b').toNat).drop 1).sum % 256 == (b'[(b0 b').toNat]?).getD 0)
@[simp] theorem kpB : kpos (["body", "waits", "many"] : List Str) "body" = some 0 := by decide +kernel
@[simp] theorem kpW : kpos (["body", "waits", "many"] : List Str) "waits" = some 1 := by decide +kernel
@[simp] theorem kpM : kpos (["body", "waits", "many"] : List Str) "many" = some 2 := by decide +kernel
@[simp] theorem kpB0 : kpos ([] : List Str) "body" = none := by decide +kernel
@[simp] theorem kpW1 : kpos (["body"] : List Str) "waits" = none := by decide +kernel
@[simp] theorem kpM2 : kpos (["body", "waits"] : List Str) "many" = none := by decide +kernel
@[simp] theorem kpT : kpos (["body", "waits", "many"] : List Str) "taken" = none := by decide +kernel
@[simp] theorem kpD : kpos (["body", "waits", "many"] : List Str) "dropped" = none := by decide +kernel
@[simp] theorem kpF : kpos (["body", "waits", "many"] : List Str) "feed" = none := by decide +kernel
@[simp] theorem kpP : kpos (["body", "waits", "many"] : List Str) "pending" = none := by decide +kernel
@[simp] theorem csB : Str.ofString "Framer" ∈ fl_body := by decide +kernel
@[simp] theorem csW : Str.ofString "Framer" ∈ fl_waits := by decide +kernel
@[simp] theorem csM : Str.ofString "Framer" ∈ fl_many := by decide +kernel
theorem init_ok : F_Framer___init__ [.nd (.ins "Framer" []) true []] = .ok .non [some (Fm.d ⟨[], true, false, 0⟩)] := by
  unfold F_Framer___init__ B_Framer___init__ Fm.d
  simp [fDef_ap, putFD, lim, outs]
theorem pending_ok (s : Fm) : F_Framer_pending [s.d] = .ok (.int s.m) [some s.d] := by
  unfold F_Framer_pending B_Framer_pending Fm.d
  simp [fDef_ap, outs]
theorem dropped_ok (s : Fm) : F_Framer_dropped [s.d] = .ok (.bl false) [some (Fm.d ⟨s.b, s.o, false, 0⟩)] := by
  unfold F_Framer_dropped B_Framer_dropped Fm.d
  simp [fDef_ap, putFD, outs]
theorem dropped_ok' {b : List D} {o w : Bool} {m : Int} : F_Framer_dropped [.nd (.ins "Framer" ["body", "waits", "many"]) true [.nd .lst o b, .bl w, .int m]] = .ok (.bl false) [some (.nd (.ins "Framer" ["body", "waits", "many"]) true [.nd .lst o b, .bl false, .int 0])] := by
  unfold F_Framer_dropped B_Framer_dropped
  simp [fDef_ap, putFD, outs]
theorem low_ok (i : Int) : F_low_octet [.int i] = .ok (.int (i % 256)) [none] := by
  unfold F_low_octet B_low_octet
  simp [fDef_ap]
theorem sc_bl {i : Bool} : (D.bl i).sc = true := rfl
theorem flat_ints {ns : List Int} : flatZ (.nd .lst true (ns.map D.int)) = true := by
  show (true && (Kd.ow .lst && (ns.map D.int).all D.sc)) = true
  simp [Kd.ow, D.sc]
def tl (b' : List Int) (m : Int) : Fm × Bool := if b0 b' < 3 ∨ 123 < b0 b' then (⟨b', true, false, 0⟩, false)
    else if (b'.length : Int) ≤ b0 b' then (⟨b', true, false, m⟩, false)
    else (⟨b', true, false, 0⟩, ((b'.take (b0 b').toNat).drop 1).sum % 256 == (b'[(b0 b').toNat]?).getD 0)
theorem tail_ok {b' : List Int} {w : Bool} {m x : Int} (hb : b' ≠ []) : So.fin [0] 2 (T_Framer_taken ⟨[some (Fm.d ⟨b', true, w, m⟩), some (.int x)], none⟩) = .ok (.bl (tl b' m).2) [some (tl b' m).1.d, none] := by
  obtain ⟨h, t, rfl⟩ := List.exists_cons_of_ne_nil hb
  have e0 : b0 (h :: t) = h := rfl
  have e1 : ixN (t.length + 1) 0 = some 0 := by unfold ixN; simp
  unfold tl T_Framer_taken Fm.d
  rw [e0]
  by_cases h1 : h < 3
  · simp [putFD, outs, e1, h1, dropped_ok']
  by_cases h2 : 123 < h
  · simp [putFD, outs, e1, h1, h2, dropped_ok']
  by_cases h3 : (t.length : Int) + 1 ≤ h
  · simp [putFD, outs, e1, h1, h2, h3]
  have h4 : h.toNat < t.length + 1 := by omega
  have e4 : ((h.toNat : Int)) = h := by omega
  have e2 : ixN (t.length + 1) h = some h.toNat := by
    have := ixN_nat (n := t.length + 1) (j := h.toNat) h4
    rwa [e4] at this
  have e3 : cutD ((h :: t).map D.int) (some ((1 : Nat) : Int)) (some (h.toNat : Int)) = (((h :: t).take h.toNat).drop 1).map D.int := by
    rw [cutD_mid (xs := (h :: t).map D.int) (j := 1) (k := h.toNat) (by rw [List.length_map, List.length_cons]; omega) (by omega), List.map_drop, List.map_take]
  rw [e4] at e3
  have e3 : cutD (D.int h :: t.map D.int) (some 1) (some h) = (((h :: t).take h.toNat).drop 1).map D.int := e3
  generalize ((h :: t).take h.toNat).drop 1 = ns at e3 ⊢
  obtain ⟨y, hy⟩ : ∃ y, (h :: t)[h.toNat]? = some y := ⟨_, List.getElem?_eq_getElem (by simpa using h4)⟩
  have hy2 : ((h :: t).map D.int)[h.toNat]? = some (.int y) := by rw [List.getElem?_map, hy]; rfl
  rw [hy]
  simp only [List.map_cons] at hy2
  simp [putFD, outs, e1, e2, h1, h2, h3, e3, hy2, flat_ints, low_ok, eqD_int]
theorem taken_ok {s : Fm} {x : Int} (h : s.m ≠ 0 → s.o = true) (hl : s.b.length < 1000000) : F_Framer_taken [s.d, .int x] = .ok (.bl (stp s x).2) [some (stp s x).1.d, none] := by
  obtain ⟨b, o, w, m⟩ := s
  unfold F_Framer_taken B_Framer_taken stp
  by_cases h1 : x = 126
  · subst h1
    simp [fDef_ap, putFD, outs, Fm.d, eqD_int, lim]
  by_cases h2 : m = 0
  · subst h2
    simp [fDef_ap, putFD, outs, Fm.d, eqD_int, lim, h1]
  have ho : o = true := h h2
  subst ho
  by_cases h3 : w = true ∧ 1 < x
  · obtain ⟨rfl, h3⟩ := h3
    simp [fDef_ap, putFD, outs, Fm.d, eqD_int, lim, h1, h2, h3, dropped_ok', sc_bl]
  by_cases h4 : x = 125 ∧ w = false
  · obtain ⟨rfl, rfl⟩ := h4
    simp [fDef_ap, putFD, outs, Fm.d, eqD_int, lim, h2]
  have hl' : b.length < 16000000 := Nat.lt_trans hl (by decide)
  rw [if_neg h1, if_neg h2, if_neg h3, if_neg h4]
  have ht := tail_ok (b' := b ++ [if w = true then 125 + x else x]) (w := w) (m := m + 1) (x := x) (by simp)
  unfold tl at ht
  unfold Fm.d at ht
  cases w with
  | true =>
    have h3' : ¬ 1 < x := fun z => h3 ⟨rfl, z⟩
    simp [fDef_ap, putFD, Fm.d, eqD_int, lim, h1, h2, h3', hl']
    simpa using ht
  | false =>
    have h4' : ¬ x = 125 := fun z => h4 ⟨z, rfl⟩
    simp [fDef_ap, putFD, Fm.d, eqD_int, lim, h1, h2, h4', hl']
    simpa using ht
def evt (b : List Int) : D := .nd .tup false [.int ((b[1]?).getD 0), .int ((b[2]?).getD 0), .nd .lst false (((b.take (b.length - 1)).drop 3).map D.int)]
def stpF (s : Fm) (x : Int) : Fm × List D := if (stp s x).2 then (⟨(stp s x).1.b, false, (stp s x).1.w, (stp s x).1.m⟩, [evt (stp s x).1.b]) else ((stp s x).1, [])
def run : Fm → List Int → Fm × List D × List Int
  | s, [] => (s, [], [])
  | s, x :: xs => ((run (stpF s x).1 xs).1, (stpF s x).2 ++ (run (stpF s x).1 xs).2.1, (stpF s x).1.m :: (run (stpF s x).1 xs).2.2)
structure Gd (s : Fm) : Prop where
  o : s.m ≠ 0 → s.o = true
  l : s.b.length ≤ 124
  k : s.m ≠ 0 → s.b.length ≤ 123
theorem stp_ev {s : Fm} {x : Int} (h : (stp s x).2 = true) : (stp s x).1.m = 0 ∧ 4 ≤ (stp s x).1.b.length := by
  unfold stp at h ⊢
  split at h
  · cases h
  split at h
  · cases h
  split at h
  · cases h
  split at h
  · cases h
  rename_i h1 h2 h3 h4
  rw [if_neg h1, if_neg h2, if_neg h3, if_neg h4]
  dsimp only at h ⊢
  generalize s.b ++ [if s.w = true then 125 + x else x] = b' at h ⊢
  split at h
  · cases h
  rename_i h5
  split at h
  · cases h
  rename_i h6
  rw [if_neg h5, if_neg h6]
  exact ⟨rfl, by dsimp only; omega⟩
theorem stp_gd {s : Fm} {x : Int} (g : Gd s) : Gd (stp s x).1 := by
  unfold stp
  split
  · exact ⟨fun _ => rfl, by simp, fun _ => by simp⟩
  split
  · exact g
  rename_i h2
  split
  · exact ⟨fun h => absurd rfl h, g.l, fun h => absurd rfl h⟩
  split
  · exact ⟨fun _ => g.o h2, g.l, fun _ => g.k h2⟩
  dsimp only
  have hk := g.k h2
  have hb : (s.b ++ [if s.w = true then 125 + x else x]).length = s.b.length + 1 := by simp
  generalize s.b ++ [if s.w = true then 125 + x else x] = b' at hb ⊢
  split
  · exact ⟨fun h => absurd rfl h, by dsimp only; omega, fun h => absurd rfl h⟩
  rename_i h5
  split
  · rename_i h6
    exact ⟨fun _ => g.o h2, by dsimp only; omega, fun _ => by dsimp only; omega⟩
  · exact ⟨fun h => absurd rfl h, by dsimp only; omega, fun h => absurd rfl h⟩
theorem stpF_gd {s : Fm} {x : Int} (g : Gd s) : Gd (stpF s x).1 := by
  have g2 := stp_gd (x := x) g
  unfold stpF
  split
  · rename_i h
    exact ⟨fun z => absurd (stp_ev h).1 z, g2.l, fun z => absurd (stp_ev h).1 z⟩
  · exact g2
theorem run_gd : ∀ {xs : List Int} {s : Fm}, Gd s → Gd (run s xs).1
  | [], _, g => g
  | _ :: xs, _, g => run_gd (xs := xs) (stpF_gd g)
theorem run_cons {s : Fm} {x : Int} {xs : List Int} : run s (x :: xs) = ((run (stpF s x).1 xs).1, (stpF s x).2 ++ (run (stpF s x).1 xs).2.1, (stpF s x).1.m :: (run (stpF s x).1 xs).2.2) := rfl
theorem run_app : ∀ {xs ys : List Int} {s : Fm}, run s (xs ++ ys) = ((run (run s xs).1 ys).1, (run s xs).2.1 ++ (run (run s xs).1 ys).2.1, (run s xs).2.2 ++ (run (run s xs).1 ys).2.2)
  | [], ys, s => rfl
  | x :: xs, ys, s => by
    rw [List.cons_append, run_cons, run_cons, run_app (xs := xs)]
    simp
theorem run_evs : ∀ {xs : List Int} {s : Fm}, (run s xs).2.1.length ≤ xs.length
  | [], s => Nat.le_refl _
  | x :: xs, s => by
    have ih := run_evs (xs := xs) (s := (stpF s x).1)
    unfold run
    dsimp only
    rw [List.length_append, List.length_cons]
    have : (stpF s x).2.length ≤ 1 := by unfold stpF; split <;> simp
    omega
theorem run_pend : ∀ {xs : List Int} {s : Fm}, (run s xs).2.2.length = xs.length
  | [], s => rfl
  | x :: xs, s => by unfold run; dsimp only; rw [List.length_cons, List.length_cons, run_pend (xs := xs)]
/-- no event where something is pending -/
theorem run_noev : ∀ {xs : List Int} {s : Fm}, (∀ p ∈ (run s xs).2.2, p ≠ 0) → (run s xs).2.1 = []
  | [], s, _ => rfl
  | x :: xs, s, h => by
    unfold run at h ⊢
    dsimp only at h ⊢
    have h0 := h _ List.mem_cons_self
    rw [run_noev fun p hp => h p (List.mem_cons_of_mem _ hp), List.append_nil]
    unfold stpF at h0 ⊢
    split
    · rename_i h1
      rw [if_pos h1] at h0
      exact absurd (stp_ev h1).1 h0
    · rfl
theorem meth_d {m : Str} {s : Fm} {r : Rs D} (hk : kpos (["body", "waits", "many"] : List Str) m = none) : kMeth "Framer" m (some (some (Fm.d s))) r = r := by
  unfold Fm.d
  rw [kMeth_nd, if_pos ⟨rfl, hk⟩]
@[simp] theorem meth_t {s : Fm} {r : Rs D} : kMeth "Framer" "taken" (some (some (Fm.d s))) r = r := meth_d kpT
@[simp] theorem meth_f {s : Fm} {r : Rs D} : kMeth "Framer" "feed" (some (some (Fm.d s))) r = r := meth_d kpF
@[simp] theorem meth_p {s : Fm} {r : Rs D} : kMeth "Framer" "pending" (some (some (Fm.d s))) r = r := meth_d kpP
theorem at_d {sl : List (Option D)} {ex : Option Exc} {s : Fm} : eAtN fl_body 0 "body" ⟨some (Fm.d s) :: sl, ex⟩ = .ok (.nd .lst false (s.b.map D.int)) ⟨some (Fm.d ⟨s.b, false, s.w, s.m⟩) :: sl, ex⟩ := by
  unfold Fm.d
  simp
theorem ev_ok {b : List Int} {a0 a1 a3 : Option D} {evs : List D} {ex : Option Exc} (h : 4 ≤ b.length) (hl : b.length ≤ 1000) (he : evs.length < 16000000) :
    fExpr (eAppN 2 (eTup (aCons (eIxN 4 (eC (.int 1))) (aCons (eIxN 4 (eC (.int 2))) (aCons (eSl (eN 4) (some (eC (.int 3))) (some (eBin subD (eCallB lenD (aIo 4 aNil)) (eC (.int 1))))) aNil))))) ⟨[a0, a1, some (.nd .lst true evs), a3, some (.nd .lst false (b.map D.int))], ex⟩ =
      .nx ⟨[a0, a1, some (.nd .lst true (evs ++ [evt b])), a3, some (.nd .lst false (b.map D.int))], ex⟩ := by
  have e1 : ixN b.length 1 = some 1 := ixN_nat (j := 1) (by omega)
  have e2 : ixN b.length 2 = some 2 := ixN_nat (j := 2) (by omega)
  have x1 : ∃ y, b[1]? = some y := ⟨_, List.getElem?_eq_getElem (by omega)⟩
  have x2 : ∃ y, b[2]? = some y := ⟨_, List.getElem?_eq_getElem (by omega)⟩
  obtain ⟨y1, x1⟩ := x1
  obtain ⟨y2, x2⟩ := x2
  have e3 : cutD (b.map D.int) (some ((3 : Nat) : Int)) (some ((b.length - 1 : Nat) : Int)) = ((b.take (b.length - 1)).drop 3).map D.int := by
    rw [cutD_mid (xs := b.map D.int) (j := 3) (k := b.length - 1) (by rw [List.length_map]; omega) (by omega), List.map_drop, List.map_take]
  have e4 : ((b.length - 1 : Nat) : Int) = (b.length : Int) - 1 := by omega
  rw [e4] at e3
  have e3 : cutD (b.map D.int) (some 3) (some ((b.length : Int) - 1)) = ((b.take (b.length - 1)).drop 3).map D.int := e3
  unfold evt
  rw [x1, x2]
  generalize (b.take (b.length - 1)).drop 3 = ns at e3 ⊢
  simp [e1, e2, x1, x2, e3, lim, he]
theorem feed_loop {oct : Option D} : ∀ {xs : List Int} {s : Fm} {evs : List D} {x3 x4 : Option D}, Gd s → evs.length + xs.length ≤ 10000000 → ∃ x3' x4', forL (gN 3) (fIf (tTru (eMeth "Framer" "taken" 2 0 F_Framer_taken (aCons (eN 3) aNil))) (fSeq (fAsg (gN 4) (eAtN fl_body 0 "body")) (fExpr (eAppN 2 (eTup (aCons (eIxN 4 (eC (.int 1))) (aCons (eIxN 4 (eC (.int 2))) (aCons (eSl (eN 4) (some (eC (.int 3))) (some (eBin subD (eCallB lenD (aIo 4 aNil)) (eC (.int 1))))) aNil))))))) fNext)
      (xs.map D.int) ⟨[some s.d, oct, some (.nd .lst true evs), x3, x4], none⟩ = .nx ⟨[some (run s xs).1.d, oct, some (.nd .lst true (evs ++ (run s xs).2.1)), x3', x4'], none⟩
  | [], s, evs, x3, x4, _, _ => ⟨x3, x4, by unfold run; rw [List.append_nil]; rfl⟩
  | x :: xs, s, evs, x3, x4, g, hl => by
    rw [List.length_cons] at hl
    have ht := taken_ok (s := s) (x := x) g.o (by have := g.l; omega)
    have g2 := stp_gd (x := x) g
    rw [List.map_cons]
    unfold run
    dsimp only
    unfold stpF
    cases hr : (stp s x).2 with
    | true =>
      rw [hr] at ht
      have hv := stp_ev hr
      have ev := ev_ok (b := (stp s x).1.b) (a0 := some (Fm.d ⟨(stp s x).1.b, false, (stp s x).1.w, (stp s x).1.m⟩)) (a1 := oct) (a3 := some (.int x)) (evs := evs) (ex := none) hv.2 (by have := g2.l; omega) (by omega)
      obtain ⟨x3', x4', ih⟩ := feed_loop (oct := oct) (xs := xs) (s := ⟨(stp s x).1.b, false, (stp s x).1.w, (stp s x).1.m⟩) (evs := evs ++ [evt (stp s x).1.b]) (x3 := some (.int x)) (x4 := some (.nd .lst false ((stp s x).1.b.map D.int)))
        ⟨fun z => absurd hv.1 z, g2.l, fun z => absurd hv.1 z⟩ (by simp; omega)
      refine ⟨x3', x4', ?_⟩
      rw [if_pos rfl]
      dsimp only
      rw [List.append_assoc] at ih
      rw [← ih]
      refine forL_step (e1 := ⟨[some s.d, oct, some (.nd .lst true evs), some (.int x), x4], none⟩) (by simp) ?_
      simp [ht, at_d, -fExpr_ap, -eAtN_ap, ev]
    | false =>
      rw [hr] at ht
      obtain ⟨x3', x4', ih⟩ := feed_loop (oct := oct) (xs := xs) (s := (stp s x).1) (evs := evs) (x3 := some (.int x)) (x4 := x4) g2 (by omega)
      refine ⟨x3', x4', ?_⟩
      rw [if_neg (by simp)]
      dsimp only
      rw [List.nil_append, ← ih]
      refine forL_step (e1 := ⟨[some s.d, oct, some (.nd .lst true evs), some (.int x), x4], none⟩) (by simp) ?_
      simp [ht]
theorem feed_ok {s : Fm} {xs : List Int} {o : Bool} (g : Gd s) (hl : xs.length ≤ 1000000) : F_Framer_feed [s.d, .nd .lst o (xs.map D.int)] = .ok (.nd .lst true (run s xs).2.1) [some (run s xs).1.d, none] := by
  obtain ⟨x3, x4, h⟩ := feed_loop (oct := some (.nd .lst false (xs.map D.int))) (xs := xs) (s := s) (evs := []) (x3 := none) (x4 := none) g (by simp; omega)
  rw [List.nil_append] at h
  unfold F_Framer_feed B_Framer_feed
  simp [fDef_ap, h, outs, lim]
end Lw

set_option Elab.async false
set_option linter.all false
set_option maxRecDepth 100000
set_option maxHeartbeats 4000000
/-! The law's own frames, and the framer on them. -/
namespace Lw
open PySem L2 Bx
theorem Stk.le {m n : Nat} {s : D} (h : Stk m s) (l : n ≤ m) : Stk n s := by
  obtain ⟨a, b, c, h1, h2, h3, h4, h5, h6⟩ := h
  exact ⟨a, b, c, h1, h2, h3, h4, h5, by omega⟩
/-- a comprehension that draws -/
theorem lcL_ex {vs : List Nat} {g : FG} {tt : FT} {el : FE} {I : Nat → En → Prop} {P : D → Prop} : ∀ {xs acc : List D} {e : En} {j : Nat}, I j e → (∀ i x, xs[i]? = some x → ∀ e, I (j + i) e → ∃ e1 e2 e3 y, g x e = some e1 ∧ tt e1 = .ok true e2 ∧ el e2 = .ok y e3 ∧ P y ∧ I (j + i + 1) (delL e3 vs)) → acc.length + xs.length ≤ lim →
    ∃ ys e', lcL vs g tt el xs acc e = .ok (acc ++ ys) e' ∧ ys.length = xs.length ∧ (∀ y ∈ ys, P y) ∧ I (j + xs.length) e'
  | [], acc, e, j, hi, _, _ => ⟨[], e, by rw [List.append_nil]; rfl, rfl, by simp, hi⟩
  | x :: xs, acc, e, j, hi, h, hl => by
    obtain ⟨e1, e2, e3, y, h1, h2, h3, hp, h4⟩ := h 0 x rfl e hi
    rw [List.length_cons] at hl
    obtain ⟨ys, e', ih, hy, hq, hi'⟩ := lcL_ex (xs := xs) (acc := acc ++ [y]) (j := j + 1) h4 (fun i z hz e he => by
      have q : j + 1 + i = j + (i + 1) := by omega
      rw [q] at he ⊢
      exact h (i + 1) z hz e he) (by simp; omega)
    have hj : j + 1 + xs.length = j + (xs.length + 1) := by omega
    rw [hj] at hi'
    refine ⟨y :: ys, e', ?_, by simp [hy], fun z hz => ?_, hi'⟩
    · unfold lcL
      rw [h1]; dsimp only
      rw [h2, Rs.nox_ok, Rs.bind_ok, if_pos rfl, h3, Rs.nox_ok, Rs.bind_ok, if_pos (by omega), ih]
      simp
    · rcases List.mem_cons.mp hz with rfl | hz
      · exact hp
      · exact hq z hz
theorem ints_of {p : Int → Prop} : ∀ {ys : List D}, (∀ y ∈ ys, ∃ i, y = .int i ∧ p i) → ∃ ms : List Int, ys = ms.map D.int ∧ ∀ m ∈ ms, p m
  | [], _ => ⟨[], rfl, by simp⟩
  | y :: ys, h => by
    obtain ⟨i, rfl, hi⟩ := h y List.mem_cons_self
    obtain ⟨ms, rfl, hm⟩ := ints_of fun z hz => h z (List.mem_cons_of_mem _ hz)
    exact ⟨i :: ms, rfl, fun m hm' => by
      rcases List.mem_cons.mp hm' with rfl | hm'
      · exact hi
      · exact hm m hm'⟩
abbrev Byt (i : Int) : Prop := 0 ≤ i ∧ i ≤ 255
theorem octet_ok {n : Nat} {s : D} (h : Stk (n + 2) s) : ∃ r s', F_law_octet [s] = .ok (.int r) [some s'] ∧ Byt r ∧ Stk n s' := by
  obtain ⟨r1, s1, e1, a1, b1, k1⟩ := pick_ok (m := 2) h (by decide) (by decide)
  unfold F_law_octet B_law_octet
  by_cases c : r1 = 0
  · subst c
    obtain ⟨r2, s2, e2, a2, b2, k2⟩ := pick_ok (m := 6) k1 (by decide) (by decide)
    exact ⟨_, s2, by simp [fDef_ap, e1, e2, eqD_int, outs]; rfl, by unfold Byt; omega, k2⟩
  · obtain ⟨r2, s2, e2, a2, b2, k2⟩ := pick_ok (m := 256) k1 (by decide) (by decide)
    exact ⟨_, s2, by simp [fDef_ap, e1, e2, eqD_int, outs, c]; rfl, by unfold Byt; omega, k2⟩
theorem message_ok {n : Nat} {s : D} {most : Nat} (hm : most ≤ 1000) (h : Stk (n + 2 * most + 1) s) : ∃ (ms : List Int) (s' : D), F_law_message [s, .int (most : Int)] = .ok (.nd .lst true (ms.map D.int)) [some s', none] ∧ ms.length ≤ most ∧ (∀ m ∈ ms, Byt m) ∧ Stk n s' := by
  obtain ⟨k, s1, e1, a1, b1, k1⟩ := pick_ok (m := (most : Int) + 1) h (by omega) (by omega)
  unfold F_law_message B_law_message
  have hr : rngA1 [.int k] = some (rngD 0 k.toNat) := rngA1_ok (by omega) (by omega)
  obtain ⟨ys, e', hl, hy, hp, hI⟩ := lcL_ex (vs := [2]) (g := gN 2) (tt := tYesF) (el := eCall 1 F_law_octet (aIo 0 aNil)) (xs := rngD 0 k.toNat) (acc := []) (e := ⟨[some s1, some (.int (most : Int)), none], none⟩) (j := 0)
    (I := fun i e => ∃ s, e = ⟨[some s, some (.int (most : Int)), none], none⟩ ∧ Stk (n + 2 * most - 2 * i) s) (P := fun y => ∃ i, y = .int i ∧ Byt i) ⟨s1, rfl, k1⟩ (fun i x hx e he => by
      obtain ⟨s, rfl, hs⟩ := he
      obtain ⟨hi, rfl⟩ := rngD_at hx
      obtain ⟨r, s', e2, hb, hs'⟩ := octet_ok (n := n + 2 * most - 2 * (0 + i + 1)) (s := s) (hs.le (by omega))
      exact ⟨_, _, _, _, by simp; rfl, rfl, by simp [e2]; rfl, ⟨r, rfl, hb⟩, s', by simp, hs'⟩) (by simp [lim]; omega)
  obtain ⟨s', rfl, hs'⟩ := hI
  obtain ⟨ms, rfl, hb⟩ := ints_of hp
  rw [List.nil_append] at hl
  refine ⟨ms, s', ?_, ?_, hb, hs'.le (by simp; omega)⟩
  · simp [fDef_ap, e1, hr, hl, outs, -rngA1_ok]
  · have : ms.length = k.toNat := by simpa using hy
    omega
def esc (x : Int) : List Int := if x = 125 ∨ x = 126 then [125, x - 125] else [x]
def escd (b : List Int) : List Int := 126 :: b.flatMap esc
theorem esc_len {x : Int} : (esc x).length ≤ 2 ∧ 1 ≤ (esc x).length := by unfold esc; split <;> simp
theorem escs_len : ∀ {b : List Int}, (b.flatMap esc).length ≤ 2 * b.length
  | [] => by simp
  | x :: b => by
    have := escs_len (b := b)
    have := (esc_len (x := x)).1
    rw [List.flatMap_cons, List.length_append, List.length_cons]
    omega
theorem esc_loop {o : Option D} : ∀ {xs acc : List Int} {x2 : Option D}, acc.length + 2 * xs.length ≤ 1000000 → ∃ x2', forL (gN 2) (fIf (tOr (tTst (eBin eqD (eN 2) (eC (.int 125)))) (tTst (eBin eqD (eN 2) (eC (.int 126))))) (fSeq (fExpr (eAppN 1 (eC (.int 125)))) (fExpr (eAppN 1 (eBin subD (eN 2) (eC (.int 125)))))) (fExpr (eAppN 1 (eN 2))))
      (xs.map D.int) ⟨[o, some (.nd .lst true (acc.map D.int)), x2], none⟩ = .nx ⟨[o, some (.nd .lst true ((acc ++ xs.flatMap esc).map D.int)), x2'], none⟩
  | [], acc, x2, _ => ⟨x2, by simp⟩
  | x :: xs, acc, x2, h => by
    rw [List.length_cons] at h
    have l1 : acc.length < 16000000 := by omega
    have l2 : acc.length + 1 < 16000000 := by omega
    obtain ⟨x2', ih⟩ := esc_loop (o := o) (xs := xs) (acc := acc ++ esc x) (x2 := some (.int x)) (by have := (esc_len (x := x)).1; rw [List.length_append]; omega)
    refine ⟨x2', ?_⟩
    rw [List.map_cons, List.flatMap_cons, ← List.append_assoc, ← ih]
    refine forL_step (e1 := ⟨[o, some (.nd .lst true (acc.map D.int)), some (.int x)], none⟩) (by simp) ?_
    unfold esc
    by_cases c : x = 125
    · subst c; simp [eqD_int, lim, l1, l2]
    · by_cases c2 : x = 126
      · subst c2; simp [eqD_int, lim, l1, l2]
      · simp [eqD_int, lim, l1, l2, c, c2]
theorem escaped_ok {xs : List Int} {o : Bool} (h : xs.length ≤ 100000) : F_law_escaped [.nd .lst o (xs.map D.int)] = .ok (.nd .lst true ((escd xs).map D.int)) [none] := by
  obtain ⟨x2, hl⟩ := esc_loop (o := some (.nd .lst false (xs.map D.int))) (xs := xs) (acc := [126]) (x2 := none) (by simp; omega)
  rw [show ([126] : List Int).map D.int = [.int 126] from rfl] at hl
  unfold F_law_escaped B_law_escaped escd
  simp [fDef_ap, hl, lim]
def bod (ses head : Int) (ms : List Int) : List Int := ((ms.length : Int) + 3) :: ses :: head :: ms
def frm (ses head : Int) (ms : List Int) : List Int := escd (bod ses head ms ++ [(ses :: head :: ms).sum % 256])
theorem frame_ok {ses head : Int} {ms : List Int} {o : Bool} (h : ms.length ≤ 10000) : F_law_frame [.int ses, .int head, .nd .lst o (ms.map D.int)] = .ok (.nd .lst true ((frm ses head ms).map D.int)) [none, none, none] := by
  have h3 : cutD ((bod ses head ms).map D.int) (some ((1 : Nat) : Int)) none = (ses :: head :: ms).map D.int := by
    rw [cutD_from (by unfold bod; simp)]; rfl
  have h3 : cutD (.int ((ms.length : Int) + 3) :: .int ses :: .int head :: ms.map D.int) (some 1) none = (ses :: head :: ms).map D.int := h3
  have h4 := escaped_ok (xs := bod ses head ms ++ [(ses :: head :: ms).sum % 256]) (o := true) (by unfold bod; simp; omega)
  have h5 : ((bod ses head ms ++ [(ses :: head :: ms).sum % 256]).map D.int) = .int ((ms.length : Int) + 3) :: .int ses :: .int head :: (ms.map D.int ++ [.int ((ses :: head :: ms).sum % 256)]) := by unfold bod; simp
  rw [h5] at h4
  unfold F_law_frame B_law_frame frm
  generalize hg : (ses :: head :: ms).sum = sm at h4 ⊢
  have h6 : sumD [.nd .lst true ((ses :: head :: ms).map D.int)] = some (.int sm) := by rw [sumD_lst, hg]
  generalize (ses :: head :: ms).map D.int = tl at h3 h6
  have l1 : 3 + ms.length ≤ 16000000 := by omega
  have l2 : ms.length + 1 + 1 + 1 + 1 ≤ 16000000 := by omega
  simp [fDef_ap, lim, h3, h4, h6, l1, l2]
/-- what is pending, octet by octet -/
def iot (m : Int) (L : Nat) : List Int := (List.range L).map fun i : Nat => m + (i : Int) + 1
theorem iot_app {m : Int} {a b : Nat} : iot m (a + b) = iot m a ++ iot (m + a) b := by
  unfold iot
  rw [List.range_add, List.map_append, List.map_map]
  congr 1
  apply List.map_congr_left
  intro i _
  simp
  omega
def tlF (b' : List Int) (m : Int) : Fm × List D := if (tl b' m).2 then (⟨(tl b' m).1.b, false, (tl b' m).1.w, (tl b' m).1.m⟩, [evt (tl b' m).1.b]) else ((tl b' m).1, [])
theorem run_one {b : List Int} {m x : Int} (hm : 0 < m) (hx : Byt x) : run ⟨b, true, false, m⟩ (esc x) = ((tlF (b ++ [x]) (m + (esc x).length)).1, (tlF (b ++ [x]) (m + (esc x).length)).2, iot m ((esc x).length - 1) ++ [(tlF (b ++ [x]) (m + (esc x).length)).1.m]) := by
  have h0 : ¬ m = 0 := by omega
  have h1 : ¬ m + 1 = 0 := by omega
  unfold esc
  by_cases c : x = 125 ∨ x = 126
  · have c1 : ¬ x - 125 = 126 := by omega
    have c2 : ¬ (1 < x - 125) := by omega
    have c3 : ¬ (x - 125 = 125) := by omega
    have c4 : 125 + (x - 125) = x := by omega
    have s1 : stpF ⟨b, true, false, m⟩ 125 = (⟨b, true, true, m + 1⟩, []) := by unfold stpF stp; simp [h0]
    have s2 : stpF ⟨b, true, true, m + 1⟩ (x - 125) = tlF (b ++ [x]) (m + 1 + 1) := by
      unfold stpF stp tlF tl
      simp [h0, h1, c1, c2, c3, c4]
    have e2 : m + (([125, x - 125] : List Int).length : Int) = m + 1 + 1 := by simp; omega
    rw [if_pos c, run_cons, run_cons, s1, e2]
    dsimp only
    rw [s2]
    simp [run, iot]
  · have c1 : ¬ x = 126 := fun z => c (.inr z)
    have c2 : ¬ x = 125 := fun z => c (.inl z)
    have s2 : stpF ⟨b, true, false, m⟩ x = tlF (b ++ [x]) (m + 1) := by
      unfold stpF stp tlF tl
      simp [h0, c1, c2]
    rw [if_neg c, run_cons, s2]
    simp [run, iot]
theorem run_esc : ∀ {xs b : List Int} {m h : Int}, 0 < m → (∀ x ∈ xs, Byt x) → b0 (b ++ xs) = h → 3 ≤ h → h ≤ 123 → ((b ++ xs).length : Int) ≤ h →
    run ⟨b, true, false, m⟩ (xs.flatMap esc) = (⟨b ++ xs, true, false, m + (xs.flatMap esc).length⟩, [], iot m (xs.flatMap esc).length)
  | [], b, m, h, _, _, _, _, _, _ => by simp [run, iot]
  | x :: xs, b, m, h, hm, hx, h0, h3, h4, hl => by
    have e0 : b0 (b ++ [x]) = h := by
      rw [← h0]
      unfold b0
      cases b <;> simp
    have e1 : ((b ++ [x]).length : Int) ≤ h := by
      simp at hl ⊢; omega
    have ht : ∀ k, tlF (b ++ [x]) k = (⟨b ++ [x], true, false, k⟩, []) := fun k => by
      have t2 : tl (b ++ [x]) k = (⟨b ++ [x], true, false, k⟩, false) := by
        unfold tl
        rw [e0, if_neg (by omega), if_pos e1]
      unfold tlF
      rw [t2]
      simp
    have r1 := run_one (b := b) (m := m) (x := x) hm (hx x List.mem_cons_self)
    rw [ht] at r1
    dsimp only at r1
    have el := esc_len (x := x)
    have ih := run_esc (xs := xs) (b := b ++ [x]) (m := m + (esc x).length) (h := h) (by omega) (fun y hy => hx y (List.mem_cons_of_mem _ hy)) (by rw [← h0]; simp) h3 h4 (by simpa using hl)
    rw [List.flatMap_cons, run_app, r1]
    dsimp only
    rw [ih]
    have q : iot m ((esc x).length - 1) ++ [m + ((esc x).length : Int)] = iot m (esc x).length := by
      have : (esc x).length = ((esc x).length - 1) + 1 := by omega
      rw [show iot m (esc x).length = iot m (((esc x).length - 1) + 1) from by rw [← this], iot_app]
      congr 1
      unfold iot
      simp
      omega
    rw [q, List.length_append, iot_app]
    simp [Int.add_assoc]
/-- the framer on a whole frame -/
theorem run_frm {s0 : Fm} {ses head : Int} {ms : List Int} (hs : Byt ses) (hh : Byt head) (hm : ∀ x ∈ ms, Byt x) (hl : ms.length ≤ 120) :
    ∃ b w, run s0 (frm ses head ms) = (⟨b, false, w, 0⟩, [.nd .tup false [.int ses, .int head, .nd .lst false (ms.map D.int)]], iot 0 ((frm ses head ms).length - 1) ++ [0]) ∧ b.length ≤ 124 := by
  have hb : Byt ((ses :: head :: ms).sum % 256) := ⟨Int.emod_nonneg _ (by decide), by have := Int.emod_lt_of_pos (ses :: head :: ms).sum (by decide : (0 : Int) < 256); omega⟩
  unfold frm escd
  generalize hc : (ses :: head :: ms).sum % 256 = ck at hb ⊢
  have s1 : stpF s0 126 = (⟨[], true, false, 1⟩, []) := by unfold stpF stp; simp
  have r1 := run_esc (xs := bod ses head ms) (b := []) (m := 1) (h := (ms.length : Int) + 3) (by decide) (fun x hx => by
    unfold bod at hx
    rcases List.mem_cons.mp hx with rfl | hx
    · unfold Byt; omega
    rcases List.mem_cons.mp hx with rfl | hx
    · exact hs
    rcases List.mem_cons.mp hx with rfl | hx
    · exact hh
    exact hm x hx) rfl (by omega) (by omega) (by unfold bod; simp; omega)
  have r2 := run_one (b := bod ses head ms) (m := 1 + ((bod ses head ms).flatMap esc).length) (x := ck) (by omega) hb
  have bl : (bod ses head ms).length = ms.length + 3 := by unfold bod; simp
  have e0 : b0 (bod ses head ms ++ [ck]) = (ms.length : Int) + 3 := rfl
  have ht : ∀ k, tlF (bod ses head ms ++ [ck]) k = (⟨bod ses head ms ++ [ck], false, false, 0⟩, [evt (bod ses head ms ++ [ck])]) := fun k => by
    have t2 : tl (bod ses head ms ++ [ck]) k = (⟨bod ses head ms ++ [ck], true, false, 0⟩, true) := by
      unfold tl
      rw [e0, if_neg (by omega), if_neg (by simp [bl]; omega)]
      have n1 : ((ms.length : Int) + 3).toNat = (bod ses head ms).length := by rw [bl]; omega
      rw [n1, List.take_left, List.getElem?_append_right (Nat.le_refl _), Nat.sub_self]
      have : (bod ses head ms).drop 1 = ses :: head :: ms := rfl
      rw [this, hc]
      simp
    unfold tlF
    rw [t2]
    simp
  rw [ht] at r2
  have ev : evt (bod ses head ms ++ [ck]) = .nd .tup false [.int ses, .int head, .nd .lst false (ms.map D.int)] := by
    unfold evt
    have : (bod ses head ms ++ [ck]).length - 1 = (bod ses head ms).length := by simp
    rw [this, List.take_left]
    rfl
  have el := esc_len (x := ck)
  refine ⟨bod ses head ms ++ [ck], false, ?_, by simp [bl]; omega⟩
  rw [List.flatMap_append, run_cons, s1]
  simp only [List.flatMap_cons, List.flatMap_nil, List.append_nil]
  rw [run_app, r1]
  dsimp only
  rw [List.nil_append, r2]
  have el2 : (126 :: ((bod ses head ms).flatMap esc ++ esc ck)).length - 1 = 1 + (((bod ses head ms).flatMap esc).length + ((esc ck).length - 1)) := by simp; omega
  rw [el2, iot_app, iot_app]
  simp [iot, ev]
end Lw

set_option Elab.async false
set_option linter.all false
set_option maxRecDepth 100000
/-! printed by gen.py: the defs over data -/
namespace K26
open PySem L2 Bx Lw
def B_law_cuttings : FS := (fSeq (fAsg (gN 3) (eCallF sortedD (aCons (eLc [7] (iRng1 (aCons (eCall 2 F_law_pick (aIo 0 (aCons (eBin addD (eN 2) (eC (.int 1))) aNil))) aNil)) (gN 7) tYesF (eCall 2 F_law_pick (aIo 0 (aCons (eBin addD (eCallB lenD (aIo 1 aNil)) (eC (.int 1))) aNil)))) aNil))) (fSeq (fAsg (gN 4) (eLst aNil)) (fSeq (fAsg (gN 5) (eC (.int 0))) (fSeq (fFor (iE (eN 3)) (gN 6) (fSeq (fExpr (eAppN 4 (eSl (eN 1) (some (eN 5)) (some (eN 6))))) (fAsg (gN 5) (eN 6)))) (fRet (eBin addD (eN 4) (eLst (aCons (eSl (eN 1) (some (eN 5)) none) aNil))))))))
def F_law_cuttings : List D → CR := fDef 8 [0] B_law_cuttings
def B_law_thing : FS := (fSeq (fAsg (gN 1) (eCall 2 F_law_message (aIo 0 (aCons (eC (.int 5)) aNil)))) (fSeq (fAsg (gN 2) (eCall 1 F_law_octet (aIo 0 aNil))) (fSeq (fAsg (gN 3) (eCall 1 F_law_octet (aIo 0 aNil))) (fSeq (fAsg (gN 4) (eCall 3 F_law_frame (aCons (eN 2) (aCons (eN 3) (aCons (eN 1) aNil))))) (fSeq (fIf (tTst (eBin ltD (eCall 2 F_law_pick (aIo 0 (aCons (eC (.int 5)) aNil))) (eC (.int 2)))) (fSeq (fAsg (gN 7) (eCall 2 F_law_pick (aIo 0 (aCons (eCallB lenD (aIo 4 aNil)) aNil)))) (fRet (eTup (aCons (eSl (eN 4) none (some (eN 7))) (aCons (eC .non) (aCons (eLc [8] (iRng1 (aCons (eN 7) aNil)) (gN 8) tYesF (eBin addD (eN 8) (eC (.int 1)))) aNil)))))) fNext) (fSeq (fAsg (gN 5) (eLst aNil)) (fSeq (fIf (tTst (eBin eqD (eCall 2 F_law_pick (aIo 0 (aCons (eC (.int 3)) aNil))) (eC (.int 0)))) (fSeq (fAsg (gN 5) (eLc [8] (iRng1 (aCons (eBin addD (eC (.int 1)) (eCall 2 F_law_pick (aIo 0 (aCons (eC (.int 3)) aNil)))) aNil)) (gN 8) tYesF (eCall 2 F_law_pick (aIo 0 (aCons (eC (.int 255)) aNil))))) (fAsg (gN 5) (eLc [9] (iE (eN 5)) (gN 9) tYesF (eIf (tTst (eBin gtD (eN 9) (eC (.int 125)))) (eBin addD (eN 9) (eC (.int 1))) (eN 9))))) fNext) (fSeq (fAsg (gN 6) (eBin addD (eBin addD (eLc [8] (iRng1 (aCons (eBin subD (eCallB lenD (aIo 4 aNil)) (eC (.int 1))) aNil)) (gN 8) tYesF (eBin addD (eN 8) (eC (.int 1)))) (eLst (aCons (eC (.int 0)) aNil))) (eLc [9] (iE (eN 5)) (gN 9) tYesF (eC (.int 0))))) (fRet (eTup (aCons (eBin addD (eN 4) (eN 5)) (aCons (eTup (aCons (eN 2) (aCons (eN 3) (aCons (eN 1) aNil)))) (aCons (eN 6) aNil)))))))))))))
def F_law_thing : List D → CR := fDef 10 [0] B_law_thing
def B_law_fed : FS := (fSeq (fAsg (gN 2) (eLst aNil)) (fSeq (fFor (iE (eN 1)) (gN 3) (fSeq (fAsg (gN 4) (eMeth "Framer" "feed" 2 0 F_Framer_feed (aCons (eCallF listD (aCons (eN 3) aNil)) aNil))) (fSeq (fIf (tNt (tTst (eCallB isiD (aIo 4 (aCons (eC (.ty "list")) aNil))))) (fRet (eC .non)) fNext) (fAsg (gN 2) (eBin addD (eN 2) (eN 4)))))) (fRetV 2)))
def F_law_fed : List D → CR := fDef 5 [0] B_law_fed
def B_law : FS := (fSeq (fAsg (gN 1) (eCall 2 F_law_source (aCons (eN 0) (aCons (eC (.int 0)) aNil)))) (fSeq (fAsg (gN 2) (eIf (tTst (eBin gtD (eCall 2 F_law_pick (aIo 1 (aCons (eC (.int 8)) aNil))) (eC (.int 0)))) (eBin addD (eC (.int 1)) (eCall 2 F_law_pick (aIo 1 (aCons (eC (.int 4)) aNil)))) (eC (.int 7)))) (fSeq (fAsg (gN 3) (eLc [6] (iRng1 (aCons (eCall 2 F_law_pick (aIo 1 (aCons (eC (.int 3)) aNil))) aNil)) (gN 6) tYesF (eCall 2 F_law_pick (aIo 1 (aCons (eC (.int 126)) aNil))))) (fSeq (fAsg (gN 4) (eLc [17] (iE (eN 3)) (gN 17) tYesF (eC (.int 0)))) (fSeq (fAsg (gN 5) (eLst aNil)) (fSeq (fFor (iRng1 (aCons (eN 2) aNil)) (gN 6) (fSeq (fAsg (gT 3 (gsCons (gN 13) (gsCons (gN 11) (gsCons (gN 14) gsNil)))) (eCall 1 F_law_thing (aIo 1 aNil))) (fSeq (fAsg (gN 3) (eBin addD (eN 3) (eN 13))) (fSeq (fAsg (gN 4) (eBin addD (eN 4) (eN 14))) (fIf (tTst (eBin isntD (eN 11) (eC .non))) (fExpr (eAppN 5 (eN 11))) fNext))))) (fSeq (fAsg (gN 7) (eIf (tTru (eN 4)) (eIxN 4 (eBin subD (eCallB lenD (aIo 4 aNil)) (eC (.int 1)))) (eC (.int 0)))) (fSeq (fFor (iRng1 (aCons (eBin addD (eCallB lenD (aIo 3 aNil)) (eC (.int 1))) aNil)) (gN 8) (fSeq (fAsg (gN 15) (eNew "Framer" 0 F_Framer___init__ aNil)) (fSeq (fAsg (gN 16) (eCall 2 F_law_fed (aIo 15 (aCons (eLst (aCons (eSl (eN 3) none (some (eN 8))) (aCons (eSl (eN 3) (some (eN 8)) none) aNil))) aNil)))) (fIf (tOr (tNt (tTst (eCall 2 (F_law_same 8) (aCons (eN 16) (aCons (eN 5) aNil))))) (tNt (tTst (eCall 2 (F_law_same 8) (aCons (eMeth "Framer" "pending" 1 15 F_Framer_pending aNil) (aCons (eN 7) aNil)))))) (fRet (eC (.bl false))) fNext)))) (fSeq (fAsg (gN 9) (eNew "Framer" 0 F_Framer___init__ aNil)) (fSeq (fAsg (gN 10) (eNew "Framer" 0 F_Framer___init__ aNil)) (fSeq (fAsg (gN 11) (eLst aNil)) (fSeq (fFor (iRng1 (aCons (eCallB lenD (aIo 3 aNil)) aNil)) (gN 6) (fSeq (fAsg (gN 16) (eMeth "Framer" "feed" 2 9 F_Framer_feed (aCons (eLst (aCons (eIxN 3 (eN 6)) aNil)) aNil))) (fSeq (fIf (tOr (tNt (tTst (eCallB isiD (aIo 16 (aCons (eC (.ty "list")) aNil))))) (tNt (tTst (eCall 2 (F_law_same 8) (aCons (eMeth "Framer" "pending" 1 9 F_Framer_pending aNil) (aCons (eIxN 4 (eN 6)) aNil)))))) (fRet (eC (.bl false))) fNext) (fAsg (gN 11) (eBin addD (eN 11) (eN 16)))))) (fSeq (fIf (tOr (tNt (tTst (eCall 2 (F_law_same 8) (aCons (eN 11) (aCons (eN 5) aNil))))) (tNt (tTst (eCall 2 (F_law_same 8) (aCons (eMeth "Framer" "pending" 1 10 F_Framer_pending aNil) (aCons (eC (.int 0)) aNil)))))) (fRet (eC (.bl false))) fNext) (fSeq (fAsg (gN 12) (eCall 3 F_law_cuttings (aIo 1 (aCons (eN 3) (aCons (eC (.int 6)) aNil))))) (fSeq (fIf (tOr (tNt (tTst (eCall 2 (F_law_same 8) (aCons (eCall 2 F_law_fed (aIo 10 (aCons (eN 12) aNil))) (aCons (eN 5) aNil))))) (tNt (tTst (eCall 2 (F_law_same 8) (aCons (eMeth "Framer" "pending" 1 10 F_Framer_pending aNil) (aCons (eN 7) aNil)))))) (fRet (eC (.bl false))) fNext) (fRet (eAnd (eCall 2 (F_law_same 8) (aCons (eMeth "Framer" "feed" 2 10 F_Framer_feed (aCons (eCall 3 F_law_frame (aCons (eC (.int 1)) (aCons (eC (.int 2)) (aCons (eLst (aCons (eC (.int 126)) aNil)) aNil)))) aNil)) (aCons (eLst (aCons (eTup (aCons (eC (.int 1)) (aCons (eC (.int 2)) (aCons (eLst (aCons (eC (.int 126)) aNil)) aNil)))) aNil)) aNil))) (eBin eqD (eMeth "Framer" "pending" 1 10 F_Framer_pending aNil) (eC (.int 0))))))))))))))))))))
def F_law : List D → CR := fDef 18 [] B_law
end K26

set_option Elab.async false
set_option linter.all false
set_option maxRecDepth 100000
set_option maxHeartbeats 4000000
/-! printed by gen.py: the walk -/
namespace K26
open PySem L2 Bx Lw
abbrev topS (i : Nat) : Stmt := PySem.Challenge.pw_howeverlost_k26_whole_frames_in_every_cu.main.body.getD i (.Pass ⟨0, 0, 0, 0⟩)
abbrev st_law_source : Stmt := topS 9
abbrev N_law_source : List Str := ["script", "at", "cell", "size", "small", "one"]
theorem sc_law_source : FnScope N_law_source ["script", "at"] (defScope st_law_source) := ⟨rfl, rfl, rfl, by decide +kernel, rfl, by decide +kernel, by decide +kernel⟩
abbrev st_law_pick : Stmt := topS 10
abbrev N_law_pick : List Str := ["source", "many", "found"]
theorem sc_law_pick : FnScope N_law_pick ["source", "many"] (defScope st_law_pick) := ⟨rfl, rfl, rfl, by decide +kernel, rfl, by decide +kernel, by decide +kernel⟩
abbrev st_law_cuttings : Stmt := topS 17
abbrev N_law_cuttings : List Str := ["source", "row", "most", "cuts", "out", "begin", "cut", "at"]
theorem sc_law_cuttings : FnScope N_law_cuttings ["source", "row", "most"] (defScope st_law_cuttings) := ⟨rfl, rfl, rfl, by decide +kernel, rfl, by decide +kernel, by decide +kernel⟩
abbrev st_law_octet : Stmt := topS 14
abbrev N_law_octet : List Str := ["source"]
theorem sc_law_octet : FnScope N_law_octet ["source"] (defScope st_law_octet) := ⟨rfl, rfl, rfl, by decide +kernel, rfl, by decide +kernel, by decide +kernel⟩
abbrev st_law_message : Stmt := topS 15
abbrev N_law_message : List Str := ["source", "most", "at"]
theorem sc_law_message : FnScope N_law_message ["source", "most"] (defScope st_law_message) := ⟨rfl, rfl, rfl, by decide +kernel, rfl, by decide +kernel, by decide +kernel⟩
abbrev st_law_escaped : Stmt := topS 12
abbrev N_law_escaped : List Str := ["body", "out", "octet"]
theorem sc_law_escaped : FnScope N_law_escaped ["body"] (defScope st_law_escaped) := ⟨rfl, rfl, rfl, by decide +kernel, rfl, by decide +kernel, by decide +kernel⟩
abbrev st_law_frame : Stmt := topS 13
abbrev N_law_frame : List Str := ["session", "head", "message", "body"]
theorem sc_law_frame : FnScope N_law_frame ["session", "head", "message"] (defScope st_law_frame) := ⟨rfl, rfl, rfl, by decide +kernel, rfl, by decide +kernel, by decide +kernel⟩
abbrev st_law_thing : Stmt := topS 18
abbrev N_law_thing : List Str := ["source", "message", "session", "head", "whole", "junk", "waits", "k", "at", "octet"]
theorem sc_law_thing : FnScope N_law_thing ["source"] (defScope st_law_thing) := ⟨rfl, rfl, rfl, by decide +kernel, rfl, by decide +kernel, by decide +kernel⟩
abbrev st_low_octet : Stmt := topS 3
abbrev N_low_octet : List Str := ["number"]
theorem sc_low_octet : FnScope N_low_octet ["number"] (defScope st_low_octet) := ⟨rfl, rfl, rfl, by decide +kernel, rfl, by decide +kernel, by decide +kernel⟩
abbrev st_Framer_dropped : Stmt := inClass (topS 7) 4
abbrev N_Framer_dropped : List Str := ["self"]
theorem sc_Framer_dropped : FnScope N_Framer_dropped ["self"] (defScope st_Framer_dropped) := ⟨rfl, rfl, rfl, by decide +kernel, rfl, by decide +kernel, by decide +kernel⟩
abbrev st_Framer_taken : Stmt := inClass (topS 7) 3
abbrev N_Framer_taken : List Str := ["self", "octet"]
theorem sc_Framer_taken : FnScope N_Framer_taken ["self", "octet"] (defScope st_Framer_taken) := ⟨rfl, rfl, rfl, by decide +kernel, rfl, by decide +kernel, by decide +kernel⟩
abbrev st_Framer_feed : Stmt := inClass (topS 7) 1
abbrev N_Framer_feed : List Str := ["self", "octets", "found", "octet", "body"]
theorem sc_Framer_feed : FnScope N_Framer_feed ["self", "octets"] (defScope st_Framer_feed) := ⟨rfl, rfl, rfl, by decide +kernel, rfl, by decide +kernel, by decide +kernel⟩
abbrev st_law_fed : Stmt := topS 16
abbrev N_law_fed : List Str := ["framer", "pieces", "told", "piece", "got"]
theorem sc_law_fed : FnScope N_law_fed ["framer", "pieces"] (defScope st_law_fed) := ⟨rfl, rfl, rfl, by decide +kernel, rfl, by decide +kernel, by decide +kernel⟩
abbrev st_law_same : Stmt := topS 11
abbrev N_law_same : List Str := ["answer", "due", "pairs", "key", "one", "at"]
theorem sc_law_same : FnScope N_law_same ["answer", "due"] (defScope st_law_same) := ⟨rfl, rfl, rfl, by decide +kernel, rfl, by decide +kernel, by decide +kernel⟩
abbrev st_Framer___init__ : Stmt := inClass (topS 7) 0
abbrev N_Framer___init__ : List Str := ["self"]
theorem sc_Framer___init__ : FnScope N_Framer___init__ ["self"] (defScope st_Framer___init__) := ⟨rfl, rfl, rfl, by decide +kernel, rfl, by decide +kernel, by decide +kernel⟩
abbrev st_Framer_pending : Stmt := inClass (topS 7) 2
abbrev N_Framer_pending : List Str := ["self"]
theorem sc_Framer_pending : FnScope N_Framer_pending ["self"] (defScope st_Framer_pending) := ⟨rfl, rfl, rfl, by decide +kernel, rfl, by decide +kernel, by decide +kernel⟩
abbrev st_law : Stmt := topS 19
abbrev N_law : List Str := ["script", "source", "many", "row", "waits", "due", "at", "last", "cut", "single", "other", "told", "pieces", "octets", "counts", "framer", "got", "octet"]
theorem sc_law : FnScope N_law ["script"] (defScope st_law) := ⟨rfl, rfl, rfl, by decide +kernel, rfl, by decide +kernel, by decide +kernel⟩
structure Ad where
  f_law_source : Addr
  d_law_source : FuncData
  f_law_pick : Addr
  d_law_pick : FuncData
  f_law_cuttings : Addr
  d_law_cuttings : FuncData
  f_law_octet : Addr
  d_law_octet : FuncData
  f_law_message : Addr
  d_law_message : FuncData
  f_law_escaped : Addr
  d_law_escaped : FuncData
  f_law_frame : Addr
  d_law_frame : FuncData
  f_law_thing : Addr
  d_law_thing : FuncData
  f_low_octet : Addr
  d_low_octet : FuncData
  f_Framer_dropped : Addr
  d_Framer_dropped : FuncData
  f_Framer_taken : Addr
  d_Framer_taken : FuncData
  f_Framer_feed : Addr
  d_Framer_feed : FuncData
  f_law_fed : Addr
  d_law_fed : FuncData
  f_law_same : Addr
  d_law_same : FuncData
  f_Framer___init__ : Addr
  d_Framer___init__ : FuncData
  f_Framer_pending : Addr
  d_Framer_pending : FuncData
  f_law : Addr
  d_law : FuncData
  c_Framer : Addr
def Ad.ca (A : Ad) : Str → Addr := fun c => if c = "Framer" then A.c_Framer else 0
theorem Ad.ca_Framer (A : Ad) : A.ca "Framer" = A.c_Framer := by
  unfold Ad.ca
  exact if_pos rfl
structure Tx (P : Program) (w : World) (K : PySem.W.Frag) (mg : Str → Option Value) (base : Heap) (A : Ad) : Prop where
  F_law_source : Fun K "_law_source" "_law_source" st_law_source A.f_law_source A.d_law_source
  b_law_source : Binds K A.d_law_source ["script", "at"] []
  m_law_source : mg "_law_source" = some (.ref A.f_law_source)
  F_law_pick : Fun K "_law_pick" "_law_pick" st_law_pick A.f_law_pick A.d_law_pick
  b_law_pick : Binds K A.d_law_pick ["source", "many"] []
  m_law_pick : mg "_law_pick" = some (.ref A.f_law_pick)
  F_law_cuttings : Fun K "_law_cuttings" "_law_cuttings" st_law_cuttings A.f_law_cuttings A.d_law_cuttings
  b_law_cuttings : Binds K A.d_law_cuttings ["source", "row", "most"] []
  m_law_cuttings : mg "_law_cuttings" = some (.ref A.f_law_cuttings)
  F_law_octet : Fun K "_law_octet" "_law_octet" st_law_octet A.f_law_octet A.d_law_octet
  b_law_octet : Binds K A.d_law_octet ["source"] []
  m_law_octet : mg "_law_octet" = some (.ref A.f_law_octet)
  F_law_message : Fun K "_law_message" "_law_message" st_law_message A.f_law_message A.d_law_message
  b_law_message : Binds K A.d_law_message ["source", "most"] []
  m_law_message : mg "_law_message" = some (.ref A.f_law_message)
  F_law_escaped : Fun K "_law_escaped" "_law_escaped" st_law_escaped A.f_law_escaped A.d_law_escaped
  b_law_escaped : Binds K A.d_law_escaped ["body"] []
  m_law_escaped : mg "_law_escaped" = some (.ref A.f_law_escaped)
  F_law_frame : Fun K "_law_frame" "_law_frame" st_law_frame A.f_law_frame A.d_law_frame
  b_law_frame : Binds K A.d_law_frame ["session", "head", "message"] []
  m_law_frame : mg "_law_frame" = some (.ref A.f_law_frame)
  F_law_thing : Fun K "_law_thing" "_law_thing" st_law_thing A.f_law_thing A.d_law_thing
  b_law_thing : Binds K A.d_law_thing ["source"] []
  m_law_thing : mg "_law_thing" = some (.ref A.f_law_thing)
  F_low_octet : Fun K "low_octet" "low_octet" st_low_octet A.f_low_octet A.d_low_octet
  b_low_octet : Binds K A.d_low_octet ["number"] []
  m_low_octet : mg "low_octet" = some (.ref A.f_low_octet)
  F_Framer_dropped : Fun K "dropped" "Framer.dropped" st_Framer_dropped A.f_Framer_dropped A.d_Framer_dropped
  b_Framer_dropped : Binds K A.d_Framer_dropped ["self"] []
  me_Framer_dropped : Meth K A.c_Framer "dropped" A.f_Framer_dropped
  F_Framer_taken : Fun K "taken" "Framer.taken" st_Framer_taken A.f_Framer_taken A.d_Framer_taken
  b_Framer_taken : Binds K A.d_Framer_taken ["self", "octet"] []
  me_Framer_taken : Meth K A.c_Framer "taken" A.f_Framer_taken
  F_Framer_feed : Fun K "feed" "Framer.feed" st_Framer_feed A.f_Framer_feed A.d_Framer_feed
  b_Framer_feed : Binds K A.d_Framer_feed ["self", "octets"] []
  me_Framer_feed : Meth K A.c_Framer "feed" A.f_Framer_feed
  F_law_fed : Fun K "_law_fed" "_law_fed" st_law_fed A.f_law_fed A.d_law_fed
  b_law_fed : Binds K A.d_law_fed ["framer", "pieces"] []
  m_law_fed : mg "_law_fed" = some (.ref A.f_law_fed)
  F_law_same : Fun K "_law_same" "_law_same" st_law_same A.f_law_same A.d_law_same
  b_law_same : Binds K A.d_law_same ["answer", "due"] []
  m_law_same : mg "_law_same" = some (.ref A.f_law_same)
  F_Framer___init__ : Fun K "__init__" "Framer.__init__" st_Framer___init__ A.f_Framer___init__ A.d_Framer___init__
  b_Framer___init__ : Binds K A.d_Framer___init__ ["self"] []
  me_Framer___init__ : Meth K A.c_Framer "__init__" A.f_Framer___init__
  F_Framer_pending : Fun K "pending" "Framer.pending" st_Framer_pending A.f_Framer_pending A.d_Framer_pending
  b_Framer_pending : Binds K A.d_Framer_pending ["self"] []
  me_Framer_pending : Meth K A.c_Framer "pending" A.f_Framer_pending
  F_law : Fun K "law" "law" st_law A.f_law A.d_law
  b_law : Binds K A.d_law ["script"] []
  m_law : mg "law" = some (.ref A.f_law)
  i_ESCAPE : ∃ t, mg "ESCAPE" = some (.int 125 t)
  i_LEAST : ∃ t, mg "LEAST" = some (.int 3 t)
  i_MARK : ∃ t, mg "MARK" = some (.int 126 t)
  i_MOST : ∃ t, mg "MOST" = some (.int 123 t)
  g_Framer : mg "Framer" = some (.ref A.c_Framer)
  cl_Framer : Cls K A.c_Framer
  mk_Framer : Mk K A.c_Framer A.f_Framer___init__
  na_Framer_body : NoAttr K A.c_Framer "body"
  na_Framer_many : NoAttr K A.c_Framer "many"
  na_Framer_waits : NoAttr K A.c_Framer "waits"
  z_abs : mg "abs" = none
  z_all : mg "all" = none
  z_dict : mg "dict" = none
  z_int : mg "int" = none
  z_isinstance : mg "isinstance" = none
  z_len : mg "len" = none
  z_list : mg "list" = none
  z_range : mg "range" = none
  z_repr : mg "repr" = none
  z_sorted : mg "sorted" = none
  z_str : mg "str" = none
  z_sum : mg "sum" = none
  z_tuple : mg "tuple" = none
theorem bt_abs : bootBuiltins "abs" = some (.builtin "abs") := by decide +kernel
theorem bt_all : bootBuiltins "all" = some (.builtin "all") := by decide +kernel
theorem bt_dict : bootBuiltins "dict" = some (.type "dict") := by decide +kernel
theorem bt_int : bootBuiltins "int" = some (.type "int") := by decide +kernel
theorem bt_isinstance : bootBuiltins "isinstance" = some (.builtin "isinstance") := by decide +kernel
theorem bt_len : bootBuiltins "len" = some (.builtin "len") := by decide +kernel
theorem bt_list : bootBuiltins "list" = some (.type "list") := by decide +kernel
theorem bt_range : bootBuiltins "range" = some (.type "range") := by decide +kernel
theorem bt_repr : bootBuiltins "repr" = some (.builtin "repr") := by decide +kernel
theorem bt_sorted : bootBuiltins "sorted" = some (.builtin "sorted") := by decide +kernel
theorem bt_str : bootBuiltins "str" = some (.type "str") := by decide +kernel
theorem bt_sum : bootBuiltins "sum" = some (.builtin "sum") := by decide +kernel
theorem bt_tuple : bootBuiltins "tuple" = some (.type "tuple") := by decide +kernel
section
variable {P : Program} {w : World} {K : PySem.W.Frag} {mg : Str → Option Value} {base : Heap} {A : Ad}
theorem has_body (T : Tx P w K mg base A) : Has K A.ca fl_body "body" := fun c h => by
  have h := List.contains_iff_mem.mp h
  unfold fl_body at h
  rcases List.mem_cons.mp h with h | h
  · subst h; rw [A.ca_Framer]; exact ⟨T.cl_Framer, T.na_Framer_body⟩
  cases h
theorem has_many (T : Tx P w K mg base A) : Has K A.ca fl_many "many" := fun c h => by
  have h := List.contains_iff_mem.mp h
  unfold fl_many at h
  rcases List.mem_cons.mp h with h | h
  · subst h; rw [A.ca_Framer]; exact ⟨T.cl_Framer, T.na_Framer_many⟩
  cases h
theorem has_waits (T : Tx P w K mg base A) : Has K A.ca fl_waits "waits" := fun c h => by
  have h := List.contains_iff_mem.mp h
  unfold fl_waits at h
  rcases List.mem_cons.mp h with h | h
  · subst h; rw [A.ca_Framer]; exact ⟨T.cl_Framer, T.na_Framer_waits⟩
  cases h
theorem ok_law_source (T : Tx P w K mg base A) : FnOk P w K mg base (L2.CX P w) 1 A.f_law_source A.d_law_source ["script", "at"] (spD ⟨K, A.ca⟩ 2 F_law_source) :=
  def_ok (ca := A.ca) T.F_law_source sc_law_source (by decide) fun cdv A' outer s H vs E hr => by
    exact (bss_cons (bs_set (i := 2) sc_law_source.nd rfl (by first | exact Or.inl rfl | exact Or.inr rfl) (npin_of (by decide)) (be_if (bt_cmp op_lt ltS (nomark _) (be_name (pv 1)) (be_callB (pcB call_len rfl T.z_len bt_len (by decide) rfl rfl rfl) lenS (ba_io (pv 0) ba_nil rfl))) (be_callB (pcT call_int1 rfl T.z_int bt_int (by decide) rfl rfl rfl) intS (ba_cons (be_ixN (hu_of hr) rfl (pv 0) (be_name (pv 1)) fun _ _ => rfl) ba_nil rfl)) (be_bin op_addA addS (be_bin op_mulW mulS be_int (be_callB (pcB (cr_sum rfl) rfl T.z_sum bt_sum (by decide) rfl rfl rfl) sumS (ba_cons (be_lc (own := [("one", 5)]) rfl sc_law_source.nd (bi_E rfl (be_sl rfl (be_name (pv 0)) bp_none (bp_some be_int))) (blkOk_by (N := N_law_source) (sc := defScope st_law_source) (by decide +kernel)) (by decide) (npins_of (by decide)) (fun _ _ _ _ _ => (bg_name (pg_name (i := 5) sc_law_source.nd rfl (by first | exact Or.inl rfl | exact Or.inr rfl)) (npin_of (by decide)))) (fun _ _ _ _ _ => bts_nil) (fun _ _ _ _ _ => (be_bin op_mod modS (be_callB (pcT call_int1 rfl T.z_int bt_int (by decide) rfl rfl rfl) intS (ba_io (pv 5) ba_nil rfl)) be_int)) fun _ => rfl) ba_nil rfl))) be_int)) rfl (by first | exact Or.inl rfl | exact Or.inr rfl))
      (bss_cons (bs_set (i := 3) sc_law_source.nd rfl (by first | exact Or.inl rfl | exact Or.inr rfl) (npin_of (by decide)) (be_bin op_mod modS (be_callB (pcB call_abs rfl T.z_abs bt_abs (by decide) rfl rfl rfl) absS (ba_io (pv 2) ba_nil rfl)) (be_bin op_mulW mulS (be_bin op_pow powS be_int be_int) (be_bin op_pow powS be_int be_int))) rfl (by first | exact Or.inl rfl | exact Or.inr rfl))
      (bss_cons (bs_set (i := 4) sc_law_source.nd rfl (by first | exact Or.inl rfl | exact Or.inr rfl) (npin_of (by decide)) (be_bin op_mod modS (be_callB (pcT call_int1 rfl T.z_int bt_int (by decide) rfl rfl rfl) intS (ba_cons (be_bin op_addA addS (be_bin op_addA addS (be_bin op_addA addS (be_bin op_mulW mulS be_int (be_name (pv 3))) (be_if (bt_cmp op_lt ltS (nomark _) (be_name (pv 2)) be_int) be_int be_int)) (be_bin op_mulW mulS (be_name (pv 1)) be_int)) be_int) ba_nil rfl)) be_int) rfl (by first | exact Or.inl rfl | exact Or.inr rfl))
      (bss_one (bs_ret (be_lst (ba_cons (be_if (bt_cmp op_ge geS (nomark _) (be_name (pv 3)) (be_bin op_pow powS be_int be_int)) (be_name (pv 3)) be_int) (ba_cons (be_bin op_mod modS (be_callB (pcT call_int1 rfl T.z_int bt_int (by decide) rfl rfl rfl) intS (ba_cons (be_bin op_mulW mulS (be_bin op_addA addS (be_name (pv 4)) be_int) (be_bin op_addA addS (be_name (pv 4)) be_int)) ba_nil rfl)) be_int) (ba_cons (be_name (pv 1)) ba_nil rfl) rfl) rfl)))))))
theorem ok_law_pick (T : Tx P w K mg base A) : FnOk P w K mg base (L2.CX P w) 1 A.f_law_pick A.d_law_pick ["source", "many"] (spD ⟨K, A.ca⟩ 2 F_law_pick) :=
  def_ok (ca := A.ca) T.F_law_pick sc_law_pick (by decide) fun cdv A' outer s H vs E hr => by
    exact (bss_cons (bs_if (bt_cmp op_gt gtS (nomark _) (be_ixN (hu_of hr) rfl (pv 0) be_int fun _ _ => rfl) be_int) (bss_cons (bs_set (i := 2) sc_law_pick.nd rfl (by first | exact Or.inl rfl | exact Or.inr rfl) (npin_of (by decide)) (be_bin op_mod modS (be_callB (pcT call_int1 rfl T.z_int bt_int (by decide) rfl rfl rfl) intS (ba_cons (be_ixN (hu_of hr) rfl (pv 0) be_int fun _ _ => rfl) ba_nil rfl)) (be_name (pv 1))) rfl (by first | exact Or.inl rfl | exact Or.inr rfl))
      (bss_cons (bs_setN (psSub (hu_of hr) (pv 0) (fun _ => rfl) rfl rfl rfl) (be_bin op_fdivW divS (be_ixN (hu_of hr) rfl (pv 0) be_int fun _ _ => rfl) (be_name (pv 1))) be_int)
      (bss_one (bs_retV (pv 2))))) bss_nil)
      (bss_cons (bs_augN rfl (pv 0) be_int iop_add addIS be_int fun _ _ _ => rfl)
      (bss_cons (bs_setN (psSub (hu_of hr) (pv 0) (fun _ => rfl) rfl rfl rfl) (be_bin op_mod modS (be_callB (pcT call_int1 rfl T.z_int bt_int (by decide) rfl rfl rfl) intS (ba_cons (be_bin op_addA addS (be_bin op_mulW mulS (be_ixN (hu_of hr) rfl (pv 0) be_int fun _ _ => rfl) be_int) (be_bin op_mulW mulS (be_ixN (hu_of hr) rfl (pv 0) be_int fun _ _ => rfl) be_int)) ba_nil rfl)) be_int) be_int)
      (bss_one (bs_ret (be_bin op_mod modS (be_bin op_fdivW divS (be_bin op_mod modS (be_callB (pcT call_int1 rfl T.z_int bt_int (by decide) rfl rfl rfl) intS (ba_cons (be_bin op_addA addS (be_bin op_mulW mulS (be_ixN (hu_of hr) rfl (pv 0) be_int fun _ _ => rfl) be_int) (be_bin op_mulW mulS (be_ixN (hu_of hr) rfl (pv 0) be_int fun _ _ => rfl) be_int)) ba_nil rfl)) be_int) be_int) (be_name (pv 1))))))))
theorem ok_law_cuttings (T : Tx P w K mg base A) : FnOk P w K mg base (L2.CX P w) 2 A.f_law_cuttings A.d_law_cuttings ["source", "row", "most"] (spD ⟨K, A.ca⟩ 3 F_law_cuttings) :=
  def_ok (ca := A.ca) T.F_law_cuttings sc_law_cuttings (by decide) fun cdv A' outer s H vs E hr => by
    exact (bss_cons (bs_set (i := 3) sc_law_cuttings.nd rfl (by first | exact Or.inl rfl | exact Or.inr rfl) (npin_of (by decide)) (be_callF (pcB cr_sortedI rfl T.z_sorted bt_sorted (by decide) rfl rfl rfl) sortedS (ba_cons (be_lc (own := [("at", 7)]) rfl sc_law_cuttings.nd (bi_rng1 rfl T.z_range (ba_cons (be_call (ok_law_pick T) (hr.mono (by decide)) rfl T.m_law_pick T.F_law_pick.kp T.b_law_pick (takes_of rfl rfl rfl rfl) (ba_io (pv 0) (ba_cons (be_bin op_addA addS (be_name (pv 2)) be_int) ba_nil rfl) rfl) rfl rfl rfl) ba_nil rfl) rfl) (blkOk_by (N := N_law_cuttings) (sc := defScope st_law_cuttings) (by decide +kernel)) (by decide) (npins_of (by decide)) (fun _ _ _ _ _ => (bg_name (pg_name (i := 7) sc_law_cuttings.nd rfl (by first | exact Or.inl rfl | exact Or.inr rfl)) (npin_of (by decide)))) (fun _ _ _ _ _ => bts_nil) (fun _ _ _ _ _ => (be_call (ok_law_pick T) (hr.mono (by decide)) rfl T.m_law_pick T.F_law_pick.kp T.b_law_pick takes0 (ba_io (pv 0) (ba_cons (be_bin op_addA addS (be_callB (pcB call_len rfl T.z_len bt_len (by decide) rfl rfl rfl) lenS (ba_io (pv 1) ba_nil rfl)) be_int) ba_nil rfl) rfl) rfl rfl rfl)) fun _ => rfl) ba_nil rfl)) rfl (by first | exact Or.inl rfl | exact Or.inr rfl))
      (bss_cons (bs_set (i := 4) sc_law_cuttings.nd rfl (by first | exact Or.inl rfl | exact Or.inr rfl) (npin_of (by decide)) (be_lst ba_nil) rfl (by first | exact Or.inl rfl | exact Or.inr rfl))
      (bss_cons (bs_set (i := 5) sc_law_cuttings.nd rfl (by first | exact Or.inl rfl | exact Or.inr rfl) (npin_of (by decide)) be_int rfl (by first | exact Or.inl rfl | exact Or.inr rfl))
      (bss_cons (bs_for (passes_of rfl) rfl (bi_E rfl (be_name (pv 3))) (bg_name (pg_name (i := 6) sc_law_cuttings.nd rfl (by first | exact Or.inl rfl | exact Or.inr rfl)) (npin_of (by decide))) (bss_cons (bs_expr (be_appN (pcApp (pv 4) rfl rfl rfl rfl rfl) (pa_cons (be_sl rfl (be_name (pv 1)) (bp_some (be_name (pv 5))) (bp_some (be_name (pv 6)))) pa_nil)) rfl)
      (bss_one (bs_set (i := 5) sc_law_cuttings.nd rfl (by first | exact Or.inl rfl | exact Or.inr rfl) (npin_of (by decide)) (be_name (pv 6)) rfl (by first | exact Or.inl rfl | exact Or.inr rfl)))) fun _ => rfl)
      (bss_one (bs_ret (be_bin op_addA addS (be_name (pv 4)) (be_lst (ba_cons (be_sl rfl (be_name (pv 1)) (bp_some (be_name (pv 5))) bp_none) ba_nil rfl)))))))))
theorem ok_law_octet (T : Tx P w K mg base A) : FnOk P w K mg base (L2.CX P w) 2 A.f_law_octet A.d_law_octet ["source"] (spD ⟨K, A.ca⟩ 1 F_law_octet) :=
  def_ok (ca := A.ca) T.F_law_octet sc_law_octet (by decide) fun cdv A' outer s H vs E hr => by
    exact (bss_cons (bs_if (bt_cmp (op_eqD hr.units) eqS (nomark _) (be_call (ok_law_pick T) (hr.mono (by decide)) rfl T.m_law_pick T.F_law_pick.kp T.b_law_pick (takes_of rfl rfl rfl rfl) (ba_io (pv 0) (ba_cons be_int ba_nil rfl) rfl) rfl rfl rfl) be_int) (bss_one (bs_ret (be_bin op_addA addS be_int (be_call (ok_law_pick T) (hr.mono (by decide)) rfl T.m_law_pick T.F_law_pick.kp T.b_law_pick (takes_of rfl rfl rfl rfl) (ba_io (pv 0) (ba_cons be_int ba_nil rfl) rfl) rfl rfl rfl)))) bss_nil)
      (bss_one (bs_ret (be_call (ok_law_pick T) (hr.mono (by decide)) rfl T.m_law_pick T.F_law_pick.kp T.b_law_pick (takes_of rfl rfl rfl rfl) (ba_io (pv 0) (ba_cons be_int ba_nil rfl) rfl) rfl rfl rfl))))
theorem ok_law_message (T : Tx P w K mg base A) : FnOk P w K mg base (L2.CX P w) 3 A.f_law_message A.d_law_message ["source", "most"] (spD ⟨K, A.ca⟩ 2 F_law_message) :=
  def_ok (ca := A.ca) T.F_law_message sc_law_message (by decide) fun cdv A' outer s H vs E hr => by
    exact (bss_one (bs_ret (be_lc (own := [("at", 2)]) rfl sc_law_message.nd (bi_rng1 rfl T.z_range (ba_cons (be_call (ok_law_pick T) (hr.mono (by decide)) rfl T.m_law_pick T.F_law_pick.kp T.b_law_pick (takes_of rfl rfl rfl rfl) (ba_io (pv 0) (ba_cons (be_bin op_addA addS (be_name (pv 1)) be_int) ba_nil rfl) rfl) rfl rfl rfl) ba_nil rfl) rfl) (blkOk_by (N := N_law_message) (sc := defScope st_law_message) (by decide +kernel)) (by decide) (npins_of (by decide)) (fun _ _ _ _ _ => (bg_name (pg_name (i := 2) sc_law_message.nd rfl (by first | exact Or.inl rfl | exact Or.inr rfl)) (npin_of (by decide)))) (fun _ _ _ _ _ => bts_nil) (fun _ _ _ _ _ => (be_call (ok_law_octet T) (hr.mono (by decide)) rfl T.m_law_octet T.F_law_octet.kp T.b_law_octet takes0 (ba_io (pv 0) ba_nil rfl) rfl rfl rfl)) fun _ => rfl)))
theorem ok_law_escaped (T : Tx P w K mg base A) : FnOk P w K mg base (L2.CX P w) 1 A.f_law_escaped A.d_law_escaped ["body"] (spD ⟨K, A.ca⟩ 1 F_law_escaped) :=
  def_ok (ca := A.ca) T.F_law_escaped sc_law_escaped (by decide) fun cdv A' outer s H vs E hr => by
    exact (bss_cons (bs_set (i := 1) sc_law_escaped.nd rfl (by first | exact Or.inl rfl | exact Or.inr rfl) (npin_of (by decide)) (be_lst (ba_cons be_int ba_nil rfl)) rfl (by first | exact Or.inl rfl | exact Or.inr rfl))
      (bss_cons (bs_for (passes_of rfl) rfl (bi_E rfl (be_name (pv 0))) (bg_name (pg_name (i := 2) sc_law_escaped.nd rfl (by first | exact Or.inl rfl | exact Or.inr rfl)) (npin_of (by decide))) (bss_one (bs_if (bt_w (bw_or (bt_cmp (op_eqD hr.units) eqS (nomark _) (be_name (pv 2)) be_int) (bw_or1 (bt_cmp (op_eqD hr.units) eqS (nomark _) (be_name (pv 2)) be_int)))) (bss_cons (bs_expr (be_appN (pcApp (pv 1) rfl rfl rfl rfl rfl) (pa_cons be_int pa_nil)) rfl)
      (bss_one (bs_expr (be_appN (pcApp (pv 1) rfl rfl rfl rfl rfl) (pa_cons (be_bin op_sub subS (be_name (pv 2)) be_int) pa_nil)) rfl))) (bss_one (bs_expr (be_appN (pcApp (pv 1) rfl rfl rfl rfl rfl) (pa_cons (be_name (pv 2)) pa_nil)) rfl)))) fun _ => rfl)
      (bss_one (bs_retV (pv 1)))))
theorem ok_law_frame (T : Tx P w K mg base A) : FnOk P w K mg base (L2.CX P w) 2 A.f_law_frame A.d_law_frame ["session", "head", "message"] (spD ⟨K, A.ca⟩ 3 F_law_frame) :=
  def_ok (ca := A.ca) T.F_law_frame sc_law_frame (by decide) fun cdv A' outer s H vs E hr => by
    exact (bss_cons (bs_set (i := 3) sc_law_frame.nd rfl (by first | exact Or.inl rfl | exact Or.inr rfl) (npin_of (by decide)) (be_bin op_addA addS (be_lst (ba_cons (be_bin op_addA addS (be_callB (pcB call_len rfl T.z_len bt_len (by decide) rfl rfl rfl) lenS (ba_io (pv 2) ba_nil rfl)) be_int) (ba_cons (be_name (pv 0)) (ba_cons (be_name (pv 1)) ba_nil rfl) rfl) rfl)) (be_callF (pcT call_list_of rfl T.z_list bt_list (by decide) rfl rfl rfl) listS (ba_cons (be_name (pv 2)) ba_nil rfl))) rfl (by first | exact Or.inl rfl | exact Or.inr rfl))
      (bss_one (bs_ret (be_call (ok_law_escaped T) (hr.mono (by decide)) rfl T.m_law_escaped T.F_law_escaped.kp T.b_law_escaped (takes_of rfl rfl rfl rfl) (ba_cons (be_bin op_addA addS (be_name (pv 3)) (be_lst (ba_cons (be_bin op_mod modS (be_callB (pcT call_int1 rfl T.z_int bt_int (by decide) rfl rfl rfl) intS (ba_cons (be_callB (pcB (cr_sum rfl) rfl T.z_sum bt_sum (by decide) rfl rfl rfl) sumS (ba_cons (be_sl rfl (be_name (pv 3)) (bp_some be_int) bp_none) ba_nil rfl)) ba_nil rfl)) be_int) ba_nil rfl))) ba_nil rfl) rfl rfl rfl))))
theorem ok_law_thing (T : Tx P w K mg base A) : FnOk P w K mg base (L2.CX P w) 4 A.f_law_thing A.d_law_thing ["source"] (spD ⟨K, A.ca⟩ 1 F_law_thing) :=
  def_ok (ca := A.ca) T.F_law_thing sc_law_thing (by decide) fun cdv A' outer s H vs E hr => by
    exact (bss_cons (bs_set (i := 1) sc_law_thing.nd rfl (by first | exact Or.inl rfl | exact Or.inr rfl) (npin_of (by decide)) (be_call (ok_law_message T) (hr.mono (by decide)) rfl T.m_law_message T.F_law_message.kp T.b_law_message (takes_of rfl rfl rfl rfl) (ba_io (pv 0) (ba_cons be_int ba_nil rfl) rfl) rfl rfl rfl) rfl (by first | exact Or.inl rfl | exact Or.inr rfl))
      (bss_cons (bs_set (i := 2) sc_law_thing.nd rfl (by first | exact Or.inl rfl | exact Or.inr rfl) (npin_of (by decide)) (be_call (ok_law_octet T) (hr.mono (by decide)) rfl T.m_law_octet T.F_law_octet.kp T.b_law_octet (takes_of rfl rfl rfl rfl) (ba_io (pv 0) ba_nil rfl) rfl rfl rfl) rfl (by first | exact Or.inl rfl | exact Or.inr rfl))
      (bss_cons (bs_set (i := 3) sc_law_thing.nd rfl (by first | exact Or.inl rfl | exact Or.inr rfl) (npin_of (by decide)) (be_call (ok_law_octet T) (hr.mono (by decide)) rfl T.m_law_octet T.F_law_octet.kp T.b_law_octet (takes_of rfl rfl rfl rfl) (ba_io (pv 0) ba_nil rfl) rfl rfl rfl) rfl (by first | exact Or.inl rfl | exact Or.inr rfl))
      (bss_cons (bs_set (i := 4) sc_law_thing.nd rfl (by first | exact Or.inl rfl | exact Or.inr rfl) (npin_of (by decide)) (be_call (ok_law_frame T) (hr.mono (by decide)) rfl T.m_law_frame T.F_law_frame.kp T.b_law_frame (takes_of rfl rfl rfl rfl) (ba_cons (be_name (pv 2)) (ba_cons (be_name (pv 3)) (ba_cons (be_name (pv 1)) ba_nil rfl) rfl) rfl) rfl rfl rfl) rfl (by first | exact Or.inl rfl | exact Or.inr rfl))
      (bss_cons (bs_if (bt_cmp op_lt ltS (nomark _) (be_call (ok_law_pick T) (hr.mono (by decide)) rfl T.m_law_pick T.F_law_pick.kp T.b_law_pick (takes_of rfl rfl rfl rfl) (ba_io (pv 0) (ba_cons be_int ba_nil rfl) rfl) rfl rfl rfl) be_int) (bss_cons (bs_set (i := 7) sc_law_thing.nd rfl (by first | exact Or.inl rfl | exact Or.inr rfl) (npin_of (by decide)) (be_call (ok_law_pick T) (hr.mono (by decide)) rfl T.m_law_pick T.F_law_pick.kp T.b_law_pick (takes_of rfl rfl rfl rfl) (ba_io (pv 0) (ba_cons (be_callB (pcB call_len rfl T.z_len bt_len (by decide) rfl rfl rfl) lenS (ba_io (pv 4) ba_nil rfl)) ba_nil rfl) rfl) rfl rfl rfl) rfl (by first | exact Or.inl rfl | exact Or.inr rfl))
      (bss_one (bs_ret (be_tup (ba_cons (be_sl rfl (be_name (pv 4)) bp_none (bp_some (be_name (pv 7)))) (ba_cons be_non (ba_cons (be_lc (own := [("at", 8)]) rfl sc_law_thing.nd (bi_rng1 rfl T.z_range (ba_cons (be_name (pv 7)) ba_nil rfl) rfl) (blkOk_by (N := N_law_thing) (sc := defScope st_law_thing) (by decide +kernel)) (by decide) (npins_of (by decide)) (fun _ _ _ _ _ => (bg_name (pg_name (i := 8) sc_law_thing.nd rfl (by first | exact Or.inl rfl | exact Or.inr rfl)) (npin_of (by decide)))) (fun _ _ _ _ _ => bts_nil) (fun _ _ _ _ _ => (be_bin op_addA addS (be_name (pv 8)) be_int)) fun _ => rfl) ba_nil rfl) rfl) rfl))))) bss_nil)
      (bss_cons (bs_set (i := 5) sc_law_thing.nd rfl (by first | exact Or.inl rfl | exact Or.inr rfl) (npin_of (by decide)) (be_lst ba_nil) rfl (by first | exact Or.inl rfl | exact Or.inr rfl))
      (bss_cons (bs_if (bt_cmp (op_eqD hr.units) eqS (nomark _) (be_call (ok_law_pick T) (hr.mono (by decide)) rfl T.m_law_pick T.F_law_pick.kp T.b_law_pick (takes_of rfl rfl rfl rfl) (ba_io (pv 0) (ba_cons be_int ba_nil rfl) rfl) rfl rfl rfl) be_int) (bss_cons (bs_setLc (i := 5) (own := [("at", 8)]) rfl sc_law_thing.nd rfl rfl (npin_of (by decide)) (sw_true rfl rfl rfl (by decide +kernel)) (bi_rng1 rfl T.z_range (ba_cons (be_bin op_addA addS be_int (be_call (ok_law_pick T) (hr.mono (by decide)) rfl T.m_law_pick T.F_law_pick.kp T.b_law_pick (takes_of rfl rfl rfl rfl) (ba_io (pv 0) (ba_cons be_int ba_nil rfl) rfl) rfl rfl rfl)) ba_nil rfl) rfl) (blkOk_by (N := N_law_thing) (sc := defScope st_law_thing) (by decide +kernel)) (by decide) (npins_of (by decide)) (fun _ _ _ _ _ => (bg_name (pg_name (i := 8) sc_law_thing.nd rfl (by first | exact Or.inl rfl | exact Or.inr rfl)) (npin_of (by decide)))) (fun _ _ _ _ _ => bts_nil) (fun _ _ _ _ _ => (be_call (ok_law_pick T) (hr.mono (by decide)) rfl T.m_law_pick T.F_law_pick.kp T.b_law_pick takes0 (ba_io (pv 0) (ba_cons be_int ba_nil rfl) rfl) rfl rfl rfl)) fun _ => rfl)
      (bss_one (bs_setLc (i := 5) (own := [("octet", 9)]) rfl sc_law_thing.nd rfl rfl (npin_of (by decide)) (sw_true rfl rfl rfl (by decide +kernel)) (bi_E rfl (be_name (pv 5))) (blkOk_by (N := N_law_thing) (sc := defScope st_law_thing) (by decide +kernel)) (by decide) (npins_of (by decide)) (fun _ _ _ _ _ => (bg_name (pg_name (i := 9) sc_law_thing.nd rfl (by first | exact Or.inl rfl | exact Or.inr rfl)) (npin_of (by decide)))) (fun _ _ _ _ _ => bts_nil) (fun _ _ _ _ _ => (be_if (bt_cmp op_gt gtS (nomark _) (be_name (pv 9)) be_int) (be_bin op_addA addS (be_name (pv 9)) be_int) (be_name (pv 9)))) fun _ => rfl))) bss_nil)
      (bss_cons (bs_set (i := 6) sc_law_thing.nd rfl (by first | exact Or.inl rfl | exact Or.inr rfl) (npin_of (by decide)) (be_bin op_addA addS (be_bin op_addA addS (be_lc (own := [("at", 8)]) rfl sc_law_thing.nd (bi_rng1 rfl T.z_range (ba_cons (be_bin op_sub subS (be_callB (pcB call_len rfl T.z_len bt_len (by decide) rfl rfl rfl) lenS (ba_io (pv 4) ba_nil rfl)) be_int) ba_nil rfl) rfl) (blkOk_by (N := N_law_thing) (sc := defScope st_law_thing) (by decide +kernel)) (by decide) (npins_of (by decide)) (fun _ _ _ _ _ => (bg_name (pg_name (i := 8) sc_law_thing.nd rfl (by first | exact Or.inl rfl | exact Or.inr rfl)) (npin_of (by decide)))) (fun _ _ _ _ _ => bts_nil) (fun _ _ _ _ _ => (be_bin op_addA addS (be_name (pv 8)) be_int)) fun _ => rfl) (be_lst (ba_cons be_int ba_nil rfl))) (be_lc (own := [("octet", 9)]) rfl sc_law_thing.nd (bi_E rfl (be_name (pv 5))) (blkOk_by (N := N_law_thing) (sc := defScope st_law_thing) (by decide +kernel)) (by decide) (npins_of (by decide)) (fun _ _ _ _ _ => (bg_name (pg_name (i := 9) sc_law_thing.nd rfl (by first | exact Or.inl rfl | exact Or.inr rfl)) (npin_of (by decide)))) (fun _ _ _ _ _ => bts_nil) (fun _ _ _ _ _ => be_int) fun _ => rfl)) rfl (by first | exact Or.inl rfl | exact Or.inr rfl))
      (bss_one (bs_ret (be_tup (ba_cons (be_bin op_addA addS (be_name (pv 4)) (be_name (pv 5))) (ba_cons (be_tup (ba_cons (be_name (pv 2)) (ba_cons (be_name (pv 3)) (ba_cons (be_name (pv 1)) ba_nil rfl) rfl) rfl)) (ba_cons (be_name (pv 6)) ba_nil rfl) rfl) rfl))))))))))))
theorem ok_low_octet (T : Tx P w K mg base A) : FnOk P w K mg base (L2.CX P w) 1 A.f_low_octet A.d_low_octet ["number"] (spD ⟨K, A.ca⟩ 1 F_low_octet) :=
  def_ok (ca := A.ca) T.F_low_octet sc_low_octet (by decide) fun cdv A' outer s H vs E hr => by
    exact (bss_one (bs_ret (be_bin op_andM andS (be_name (pv 0)) be_int)))
theorem ok_Framer_dropped (T : Tx P w K mg base A) : FnOk P w K mg base (L2.CX P w) 1 A.f_Framer_dropped A.d_Framer_dropped ["self"] (spD ⟨K, A.ca⟩ 1 F_Framer_dropped) :=
  def_ok (ca := A.ca) T.F_Framer_dropped sc_Framer_dropped (by decide) fun cdv A' outer s H vs E hr => by
    exact (bss_cons (bs_atS rfl (has_many T) (pv 0) be_int rfl)
      (bss_cons (bs_atS rfl (has_waits T) (pv 0) be_bl rfl)
      (bss_one (bs_ret be_bl))))
theorem ok_Framer_taken (T : Tx P w K mg base A) : FnOk P w K mg base (L2.CX P w) 2 A.f_Framer_taken A.d_Framer_taken ["self", "octet"] (spD ⟨K, A.ca⟩ 2 F_Framer_taken) :=
  def_ok (ca := A.ca) T.F_Framer_taken sc_Framer_taken (by decide) fun cdv A' outer s H vs E hr => by
    exact (bss_cons (bs_if (bt_cmp (op_eqD hr.units) eqS (nomark _) (be_name (pv 1)) (be_gint rfl rfl T.i_MARK)) (bss_cons (bs_atS rfl (has_body T) (pv 0) (be_lst ba_nil) rfl)
      (bss_cons (bs_atS rfl (has_waits T) (pv 0) be_bl rfl)
      (bss_cons (bs_atS rfl (has_many T) (pv 0) be_int rfl)
      (bss_one (bs_ret be_bl))))) bss_nil)
      (bss_cons (bs_if (bt_cmp (op_eqD hr.units) eqS (nomark _) (be_q (bq_l (bl_at rfl (has_many T) (bl_name (pv 0)) rfl))) be_int) (bss_one (bs_ret be_bl)) bss_nil)
      (bss_cons (bs_atAug rfl (has_many T) (pv 0) iop_add addIS be_int)
      (bss_cons (bs_if (bt_w (bw_and (bt_tru rfl (be_q (bq_l (bl_at rfl (has_waits T) (bl_name (pv 0)) rfl))) fun _ => rfl) (bw_and1 (bt_cmp op_gt gtS (nomark _) (be_name (pv 1)) be_int)))) (bss_one (bs_ret (be_meth0 (A.ca_Framer) T.cl_Framer T.me_Framer_dropped (ok_Framer_dropped T) (hr.mono (by decide)) T.b_Framer_dropped (takes_of rfl rfl rfl rfl) (pv 0) rfl))) bss_nil)
      (bss_cons (bs_if (bt_w (bw_and (bt_cmp (op_eqD hr.units) eqS (nomark _) (be_name (pv 1)) (be_gint rfl rfl T.i_ESCAPE)) (bw_and1 (bt_not (bt_tru rfl (be_q (bq_l (bl_at rfl (has_waits T) (bl_name (pv 0)) rfl))) fun _ => rfl))))) (bss_cons (bs_atS rfl (has_waits T) (pv 0) be_bl rfl)
      (bss_one (bs_ret be_bl))) bss_nil)
      (bss_cons (bs_expr (be_appL (pcAppL rfl rfl rfl rfl rfl) (bl_at rfl (has_body T) (bl_name (pv 0)) rfl) (bq_if (bqt_tru rfl (bq_l (bl_at rfl (has_waits T) (bl_name (pv 0)) rfl)) fun _ => rfl) (bq_bin op_addA addS (bq_gint rfl rfl T.i_ESCAPE) (bq_name (pv 1))) (bq_name (pv 1))) rfl) rfl)
      (bss_cons (bs_atS rfl (has_waits T) (pv 0) be_bl rfl)
      (bss_cons (bs_if (bt_w (bw_or (bt_cmp op_lt ltS (nomark _) (be_q (bq_l (bl_ix (hu_of hr) rfl (bl_at rfl (has_body T) (bl_name (pv 0)) rfl) bq_int fun _ _ => rfl))) (be_gint rfl rfl T.i_LEAST)) (bw_or1 (bt_cmp op_gt gtS (nomark _) (be_q (bq_l (bl_ix (hu_of hr) rfl (bl_at rfl (has_body T) (bl_name (pv 0)) rfl) bq_int fun _ _ => rfl))) (be_gint rfl rfl T.i_MOST))))) (bss_one (bs_ret (be_meth0 (A.ca_Framer) T.cl_Framer T.me_Framer_dropped (ok_Framer_dropped T) (hr.mono (by decide)) T.b_Framer_dropped (takes_of rfl rfl rfl rfl) (pv 0) rfl))) bss_nil)
      (bss_cons (bs_if (bt_cmp op_le leS (nomark _) (be_q (bq_call1 (pcB call_len rfl T.z_len bt_len (by decide) rfl rfl rfl) lenS (bl_at rfl (has_body T) (bl_name (pv 0)) rfl) rfl)) (be_q (bq_l (bl_ix (hu_of hr) rfl (bl_at rfl (has_body T) (bl_name (pv 0)) rfl) bq_int fun _ _ => rfl)))) (bss_one (bs_ret be_bl)) bss_nil)
      (bss_cons (bs_atS rfl (has_many T) (pv 0) be_int rfl)
      (bss_one (bs_ret (be_cmp (op_eqD hr.units) eqS (nomark _) (be_call (ok_low_octet T) (hr.mono (by decide)) rfl T.m_low_octet T.F_low_octet.kp T.b_low_octet (takes_of rfl rfl rfl rfl) (ba_cons (be_callB (pcB (cr_sum rfl) rfl T.z_sum bt_sum (by decide) rfl rfl rfl) sumS (ba_cons (be_q (bq_sl rfl (bl_at rfl (has_body T) (bl_name (pv 0)) rfl) (bqp_some bq_int) (bqp_some (bq_l (bl_ix (hu_of hr) rfl (bl_at rfl (has_body T) (bl_name (pv 0)) rfl) bq_int fun _ _ => rfl))))) ba_nil rfl)) ba_nil rfl) rfl rfl rfl) (be_q (bq_l (bl_ix (hu_of hr) rfl (bl_at rfl (has_body T) (bl_name (pv 0)) rfl) (bq_l (bl_ix (hu_of hr) rfl (bl_at rfl (has_body T) (bl_name (pv 0)) rfl) bq_int fun _ _ => rfl)) fun _ _ => rfl))))))))))))))))
theorem ok_Framer_feed (T : Tx P w K mg base A) : FnOk P w K mg base (L2.CX P w) 3 A.f_Framer_feed A.d_Framer_feed ["self", "octets"] (spD ⟨K, A.ca⟩ 2 F_Framer_feed) :=
  def_ok (ca := A.ca) T.F_Framer_feed sc_Framer_feed (by decide) fun cdv A' outer s H vs E hr => by
    exact (bss_cons (bs_set (i := 2) sc_Framer_feed.nd rfl (by first | exact Or.inl rfl | exact Or.inr rfl) (npin_of (by decide)) (be_lst ba_nil) rfl (by first | exact Or.inl rfl | exact Or.inr rfl))
      (bss_cons (bs_for (passes_of rfl) rfl (bi_E rfl (be_name (pv 1))) (bg_name (pg_name (i := 3) sc_Framer_feed.nd rfl (by first | exact Or.inl rfl | exact Or.inr rfl)) (npin_of (by decide))) (bss_one (bs_if (bt_tru rfl (be_meth (A.ca_Framer) T.cl_Framer T.me_Framer_taken (ok_Framer_taken T) (hr.mono (by decide)) T.b_Framer_taken (takes_of rfl rfl rfl rfl) (pv 0) (ba_cons (be_name (pv 3)) ba_nil rfl) rfl rfl rfl) fun _ => rfl) (bss_cons (bs_set (i := 4) sc_Framer_feed.nd rfl (by first | exact Or.inl rfl | exact Or.inr rfl) (npin_of (by decide)) (be_atN rfl (has_body T) (pv 0) rfl) rfl (by first | exact Or.inl rfl | exact Or.inr rfl))
      (bss_one (bs_expr (be_appN (pcApp (pv 2) rfl rfl rfl rfl rfl) (pa_cons (be_tup (ba_cons (be_ixN (hu_of hr) rfl (pv 4) be_int fun _ _ => rfl) (ba_cons (be_ixN (hu_of hr) rfl (pv 4) be_int fun _ _ => rfl) (ba_cons (be_sl rfl (be_name (pv 4)) (bp_some be_int) (bp_some (be_bin op_sub subS (be_callB (pcB call_len rfl T.z_len bt_len (by decide) rfl rfl rfl) lenS (ba_io (pv 4) ba_nil rfl)) be_int))) ba_nil rfl) rfl) rfl)) pa_nil)) rfl))) bss_nil)) fun _ => rfl)
      (bss_one (bs_retV (pv 2)))))
theorem ok_law_fed (T : Tx P w K mg base A) : FnOk P w K mg base (L2.CX P w) 4 A.f_law_fed A.d_law_fed ["framer", "pieces"] (spD ⟨K, A.ca⟩ 2 F_law_fed) :=
  def_ok (ca := A.ca) T.F_law_fed sc_law_fed (by decide) fun cdv A' outer s H vs E hr => by
    exact (bss_cons (bs_set (i := 2) sc_law_fed.nd rfl (by first | exact Or.inl rfl | exact Or.inr rfl) (npin_of (by decide)) (be_lst ba_nil) rfl (by first | exact Or.inl rfl | exact Or.inr rfl))
      (bss_cons (bs_for (passes_of rfl) rfl (bi_E rfl (be_name (pv 1))) (bg_name (pg_name (i := 3) sc_law_fed.nd rfl (by first | exact Or.inl rfl | exact Or.inr rfl)) (npin_of (by decide))) (bss_cons (bs_set (i := 4) sc_law_fed.nd rfl (by first | exact Or.inl rfl | exact Or.inr rfl) (npin_of (by decide)) (be_meth (A.ca_Framer) T.cl_Framer T.me_Framer_feed (ok_Framer_feed T) (hr.mono (by decide)) T.b_Framer_feed (takes_of rfl rfl rfl rfl) (pv 0) (ba_cons (be_callF (pcT call_list_of rfl T.z_list bt_list (by decide) rfl rfl rfl) listS (ba_cons (be_name (pv 3)) ba_nil rfl)) ba_nil rfl) rfl rfl rfl) rfl (by first | exact Or.inl rfl | exact Or.inr rfl))
      (bss_cons (bs_if (bt_not (bt_val (be_callB (pcB call_isiA rfl T.z_isinstance bt_isinstance (by decide) rfl rfl rfl) isiS (ba_io (pv 4) (ba_cons (be_ty rfl T.z_list bt_list (by decide) rfl) ba_nil rfl) rfl)) fun _ => rfl)) (bss_one (bs_ret be_non)) bss_nil)
      (bss_one (bs_set (i := 2) sc_law_fed.nd rfl (by first | exact Or.inl rfl | exact Or.inr rfl) (npin_of (by decide)) (be_bin op_addA addS (be_name (pv 2)) (be_name (pv 4))) rfl (by first | exact Or.inl rfl | exact Or.inr rfl))))) fun _ => rfl)
      (bss_one (bs_retV (pv 2)))))
theorem ok_law_same (T : Tx P w K mg base A) : ∀ n, FnOk P w K mg base (L2.CX P w) (n + 1) A.f_law_same A.d_law_same ["answer", "due"] (spD ⟨K, A.ca⟩ 2 (F_law_same n))
  | 0 => def_bad
  | n + 1 => have ih := ok_law_same T n
    def_ok (ca := A.ca) T.F_law_same sc_law_same (by decide) fun cdv A' outer s H vs E hr => by
    exact (bss_cons (bs_if (bt_val (be_callB (pcB call_isiA rfl T.z_isinstance bt_isinstance (by decide) rfl rfl rfl) isiS (ba_io (pv 1) (ba_cons (be_ty rfl T.z_dict bt_dict (by decide) rfl) ba_nil rfl) rfl)) fun _ => rfl) (bss_cons (bs_setLc (i := 2) (own := [("key", 3)]) rfl sc_law_same.nd rfl rfl (npin_of (by decide)) (sw_true rfl rfl rfl (by decide +kernel)) (bi_E rfl (be_name (pv 1))) (blkOk_by (N := N_law_same) (sc := defScope st_law_same) (by decide +kernel)) (by decide) (npins_of (by decide)) (fun _ _ _ _ _ => (bg_name (pg_name (i := 3) sc_law_same.nd rfl (by first | exact Or.inl rfl | exact Or.inr rfl)) (npin_of (by decide)))) (fun _ _ _ _ _ => bts_nil) (fun _ _ _ _ _ => (be_lst (ba_cons (be_name (pv 3)) (ba_cons (be_ixN (hu_of hr) rfl (pv 1) (be_name (pv 3)) fun _ _ => rfl) ba_nil rfl) rfl))) fun _ => rfl)
      (bss_cons (bs_if (bt_w (bw_or (bt_not (bt_val (be_callB (pcB call_isiA rfl T.z_isinstance bt_isinstance (by decide) rfl rfl rfl) isiS (ba_io (pv 0) (ba_cons (be_ty rfl T.z_dict bt_dict (by decide) rfl) ba_nil rfl) rfl)) fun _ => rfl)) (bw_or1 (bt_cmp (op_neD hr.units) neS (nomark _) (be_callB (pcB call_len rfl T.z_len bt_len (by decide) rfl rfl rfl) lenS (ba_io (pv 0) ba_nil rfl)) (be_callB (pcB call_len rfl T.z_len bt_len (by decide) rfl rfl rfl) lenS (ba_io (pv 1) ba_nil rfl)))))) (bss_one (bs_ret be_bl)) bss_nil)
      (bss_one (bs_ret (be_callB (pcB (cr_all rfl) rfl T.z_all bt_all (by decide) rfl rfl rfl) allS (ba_cons (be_lc (own := [("key", 3), ("one", 4)]) rfl sc_law_same.nd (bi_E rfl (be_name (pv 2))) (blkOk_by (N := N_law_same) (sc := defScope st_law_same) (by decide +kernel)) (by decide) (npins_of (by decide)) (fun _ _ _ _ _ => (bg_tup rfl rfl (bgs_cons (bg_name (pg_name (i := 3) sc_law_same.nd rfl (by first | exact Or.inl rfl | exact Or.inr rfl)) (npin_of (by decide))) (bgs_cons (bg_name (pg_name (i := 4) sc_law_same.nd rfl (by first | exact Or.inl rfl | exact Or.inr rfl)) (npin_of (by decide))) bgs_nil rfl) rfl) rfl rfl)) (fun _ _ _ _ _ => bts_nil) (fun _ _ _ _ _ => (be_and (be_cmp op_inA inS rfl (be_name (pv 3)) (be_name (pv 0))) (be_one (be_call ih (hr.mono (by omega)) rfl T.m_law_same T.F_law_same.kp T.b_law_same takes0 (ba_cons (be_ixN (hu_of hr) rfl (pv 0) (be_name (pv 3)) fun _ _ => rfl) (ba_cons (be_name (pv 4)) ba_nil rfl) rfl) rfl rfl rfl)))) fun _ => rfl) ba_nil rfl)))))) bss_nil)
      (bss_cons (bs_if (bt_val (be_callB (pcB call_isiA rfl T.z_isinstance bt_isinstance (by decide) rfl rfl rfl) isiS (ba_io (pv 1) (ba_cons (be_tup (ba_cons (be_ty rfl T.z_list bt_list (by decide) rfl) (ba_cons (be_ty rfl T.z_tuple bt_tuple (by decide) rfl) ba_nil rfl) rfl)) ba_nil rfl) rfl)) fun _ => rfl) (bss_cons (bs_if (bt_w (bw_or (bt_cmp (op_neD hr.units) neS (nomark _) (be_callB (pcB call_isiA rfl T.z_isinstance bt_isinstance (by decide) rfl rfl rfl) isiS (ba_io (pv 1) (ba_cons (be_ty rfl T.z_list bt_list (by decide) rfl) ba_nil rfl) rfl)) (be_callB (pcB call_isiA rfl T.z_isinstance bt_isinstance (by decide) rfl rfl rfl) isiS (ba_io (pv 0) (ba_cons (be_ty rfl T.z_list bt_list (by decide) rfl) ba_nil rfl) rfl))) (bw_or1 (bt_cmp (op_neD hr.units) neS (nomark _) (be_callB (pcB call_isiA rfl T.z_isinstance bt_isinstance (by decide) rfl rfl rfl) isiS (ba_io (pv 1) (ba_cons (be_ty rfl T.z_tuple bt_tuple (by decide) rfl) ba_nil rfl) rfl)) (be_callB (pcB call_isiA rfl T.z_isinstance bt_isinstance (by decide) rfl rfl rfl) isiS (ba_io (pv 0) (ba_cons (be_ty rfl T.z_tuple bt_tuple (by decide) rfl) ba_nil rfl) rfl)))))) (bss_one (bs_ret be_bl)) bss_nil)
      (bss_one (bs_ret (be_and (be_cmp (op_eqD hr.units) eqS (nomark _) (be_callB (pcB call_len rfl T.z_len bt_len (by decide) rfl rfl rfl) lenS (ba_io (pv 0) ba_nil rfl)) (be_callB (pcB call_len rfl T.z_len bt_len (by decide) rfl rfl rfl) lenS (ba_io (pv 1) ba_nil rfl))) (be_one (be_callB (pcB (cr_all rfl) rfl T.z_all bt_all (by decide) rfl rfl rfl) allS (ba_cons (be_lc (own := [("at", 5)]) rfl sc_law_same.nd (bi_rng1 rfl T.z_range (ba_cons (be_callB (pcB call_len rfl T.z_len bt_len (by decide) rfl rfl rfl) lenS (ba_io (pv 1) ba_nil rfl)) ba_nil rfl) rfl) (blkOk_by (N := N_law_same) (sc := defScope st_law_same) (by decide +kernel)) (by decide) (npins_of (by decide)) (fun _ _ _ _ _ => (bg_name (pg_name (i := 5) sc_law_same.nd rfl (by first | exact Or.inl rfl | exact Or.inr rfl)) (npin_of (by decide)))) (fun _ _ _ _ _ => bts_nil) (fun _ _ _ _ _ => (be_call ih (hr.mono (by omega)) rfl T.m_law_same T.F_law_same.kp T.b_law_same takes0 (ba_cons (be_ixN (hu_of hr) rfl (pv 0) (be_name (pv 5)) fun _ _ => rfl) (ba_cons (be_ixN (hu_of hr) rfl (pv 1) (be_name (pv 5)) fun _ _ => rfl) ba_nil rfl) rfl) rfl rfl rfl)) fun _ => rfl) ba_nil rfl))))))) bss_nil)
      (bss_one (bs_ret (be_and (be_or (be_cmp op_isN isS (nomark _) (be_name (pv 0)) be_non) (be_one (be_callB (pcB call_isiA rfl T.z_isinstance bt_isinstance (by decide) rfl rfl rfl) isiS (ba_io (pv 0) (ba_cons (be_tup (ba_cons (be_ty rfl T.z_int bt_int (by decide) rfl) (ba_cons (be_ty rfl T.z_str bt_str (by decide) rfl) ba_nil rfl) rfl)) ba_nil rfl) rfl)))) (be_one (be_cmp (op_eqD hr.units) eqS (nomark _) (be_callB (pcB call_repr rfl T.z_repr bt_repr (by decide) rfl rfl rfl) reprS (ba_io (pv 0) ba_nil rfl)) (be_callB (pcB call_repr rfl T.z_repr bt_repr (by decide) rfl rfl rfl) reprS (ba_io (pv 1) ba_nil rfl)))))))))
theorem ok_Framer___init__ (T : Tx P w K mg base A) : FnOk P w K mg base (L2.CX P w) 1 A.f_Framer___init__ A.d_Framer___init__ ["self"] (spD ⟨K, A.ca⟩ 1 F_Framer___init__) :=
  def_ok (ca := A.ca) T.F_Framer___init__ sc_Framer___init__ (by decide) fun cdv A' outer s H vs E hr => by
    exact (bss_cons (bs_atS rfl (has_body T) (pv 0) (be_lst ba_nil) rfl)
      (bss_cons (bs_atS rfl (has_waits T) (pv 0) be_bl rfl)
      (bss_one (bs_atS rfl (has_many T) (pv 0) be_int rfl))))
theorem ok_Framer_pending (T : Tx P w K mg base A) : FnOk P w K mg base (L2.CX P w) 1 A.f_Framer_pending A.d_Framer_pending ["self"] (spD ⟨K, A.ca⟩ 1 F_Framer_pending) :=
  def_ok (ca := A.ca) T.F_Framer_pending sc_Framer_pending (by decide) fun cdv A' outer s H vs E hr => by
    exact (bss_one (bs_ret (be_q (bq_l (bl_at rfl (has_many T) (bl_name (pv 0)) rfl)))))
theorem ok_law (T : Tx P w K mg base A) : FnOk P w K mg base (L2.CX P w) 10 A.f_law A.d_law ["script"] (spD ⟨K, A.ca⟩ 1 F_law) :=
  def_ok (ca := A.ca) T.F_law sc_law (by decide) fun cdv A' outer s H vs E hr => by
    exact (bss_cons (bs_set (i := 1) sc_law.nd rfl (by first | exact Or.inl rfl | exact Or.inr rfl) (npin_of (by decide)) (be_call (ok_law_source T) (hr.mono (by decide)) rfl T.m_law_source T.F_law_source.kp T.b_law_source (takes_of rfl rfl rfl rfl) (ba_cons (be_name (pv 0)) (ba_cons be_int ba_nil rfl) rfl) rfl rfl rfl) rfl (by first | exact Or.inl rfl | exact Or.inr rfl))
      (bss_cons (bs_set (i := 2) sc_law.nd rfl (by first | exact Or.inl rfl | exact Or.inr rfl) (npin_of (by decide)) (be_if (bt_cmp op_gt gtS (nomark _) (be_call (ok_law_pick T) (hr.mono (by decide)) rfl T.m_law_pick T.F_law_pick.kp T.b_law_pick (takes_of rfl rfl rfl rfl) (ba_io (pv 1) (ba_cons be_int ba_nil rfl) rfl) rfl rfl rfl) be_int) (be_bin op_addA addS be_int (be_call (ok_law_pick T) (hr.mono (by decide)) rfl T.m_law_pick T.F_law_pick.kp T.b_law_pick (takes_of rfl rfl rfl rfl) (ba_io (pv 1) (ba_cons be_int ba_nil rfl) rfl) rfl rfl rfl)) be_int) rfl (by first | exact Or.inl rfl | exact Or.inr rfl))
      (bss_cons (bs_setLc (i := 3) (own := [("at", 6)]) rfl sc_law.nd rfl rfl (npin_of (by decide)) (sw_true rfl rfl rfl (by decide +kernel)) (bi_rng1 rfl T.z_range (ba_cons (be_call (ok_law_pick T) (hr.mono (by decide)) rfl T.m_law_pick T.F_law_pick.kp T.b_law_pick (takes_of rfl rfl rfl rfl) (ba_io (pv 1) (ba_cons be_int ba_nil rfl) rfl) rfl rfl rfl) ba_nil rfl) rfl) (blkOk_by (N := N_law) (sc := defScope st_law) (by decide +kernel)) (by decide) (npins_of (by decide)) (fun _ _ _ _ _ => (bg_name (pg_name (i := 6) sc_law.nd rfl (by first | exact Or.inl rfl | exact Or.inr rfl)) (npin_of (by decide)))) (fun _ _ _ _ _ => bts_nil) (fun _ _ _ _ _ => (be_call (ok_law_pick T) (hr.mono (by decide)) rfl T.m_law_pick T.F_law_pick.kp T.b_law_pick takes0 (ba_io (pv 1) (ba_cons be_int ba_nil rfl) rfl) rfl rfl rfl)) fun _ => rfl)
      (bss_cons (bs_setLc (i := 4) (own := [("octet", 17)]) rfl sc_law.nd rfl rfl (npin_of (by decide)) (sw_true rfl rfl rfl (by decide +kernel)) (bi_E rfl (be_name (pv 3))) (blkOk_by (N := N_law) (sc := defScope st_law) (by decide +kernel)) (by decide) (npins_of (by decide)) (fun _ _ _ _ _ => (bg_name (pg_name (i := 17) sc_law.nd rfl (by first | exact Or.inl rfl | exact Or.inr rfl)) (npin_of (by decide)))) (fun _ _ _ _ _ => bts_nil) (fun _ _ _ _ _ => be_int) fun _ => rfl)
      (bss_cons (bs_set (i := 5) sc_law.nd rfl (by first | exact Or.inl rfl | exact Or.inr rfl) (npin_of (by decide)) (be_lst ba_nil) rfl (by first | exact Or.inl rfl | exact Or.inr rfl))
      (bss_cons (bs_for (passes_of rfl) rfl (bi_rng1 rfl T.z_range (ba_cons (be_name (pv 2)) ba_nil rfl) rfl) (bg_name (pg_name (i := 6) sc_law.nd rfl (by first | exact Or.inl rfl | exact Or.inr rfl)) (npin_of (by decide))) (bss_cons (bs_asg (psTup rfl rfl rfl) (be_call (ok_law_thing T) (hr.mono (by decide)) rfl T.m_law_thing T.F_law_thing.kp T.b_law_thing (takes_of rfl rfl rfl rfl) (ba_io (pv 1) ba_nil rfl) rfl rfl rfl) (bg_tup rfl rfl (bgs_cons (bg_name (pg_name (i := 13) sc_law.nd rfl (by first | exact Or.inl rfl | exact Or.inr rfl)) (npin_of (by decide))) (bgs_cons (bg_name (pg_name (i := 11) sc_law.nd rfl (by first | exact Or.inl rfl | exact Or.inr rfl)) (npin_of (by decide))) (bgs_cons (bg_name (pg_name (i := 14) sc_law.nd rfl (by first | exact Or.inl rfl | exact Or.inr rfl)) (npin_of (by decide))) bgs_nil rfl) rfl) rfl) rfl rfl))
      (bss_cons (bs_set (i := 3) sc_law.nd rfl (by first | exact Or.inl rfl | exact Or.inr rfl) (npin_of (by decide)) (be_bin op_addA addS (be_name (pv 3)) (be_name (pv 13))) rfl (by first | exact Or.inl rfl | exact Or.inr rfl))
      (bss_cons (bs_set (i := 4) sc_law.nd rfl (by first | exact Or.inl rfl | exact Or.inr rfl) (npin_of (by decide)) (be_bin op_addA addS (be_name (pv 4)) (be_name (pv 14))) rfl (by first | exact Or.inl rfl | exact Or.inr rfl))
      (bss_one (bs_if (bt_cmp op_notN isntS (nomark _) (be_name (pv 11)) be_non) (bss_one (bs_expr (be_appN (pcApp (pv 5) rfl rfl rfl rfl rfl) (pa_cons (be_name (pv 11)) pa_nil)) rfl)) bss_nil))))) fun _ => rfl)
      (bss_cons (bs_set (i := 7) sc_law.nd rfl (by first | exact Or.inl rfl | exact Or.inr rfl) (npin_of (by decide)) (be_if (bt_tru rfl (be_name (pv 4)) fun _ => rfl) (be_ixN (hu_of hr) rfl (pv 4) (be_bin op_sub subS (be_callB (pcB call_len rfl T.z_len bt_len (by decide) rfl rfl rfl) lenS (ba_io (pv 4) ba_nil rfl)) be_int) fun _ _ => rfl) be_int) rfl (by first | exact Or.inl rfl | exact Or.inr rfl))
      (bss_cons (bs_for (passes_of rfl) rfl (bi_rng1 rfl T.z_range (ba_cons (be_bin op_addA addS (be_callB (pcB call_len rfl T.z_len bt_len (by decide) rfl rfl rfl) lenS (ba_io (pv 3) ba_nil rfl)) be_int) ba_nil rfl) rfl) (bg_name (pg_name (i := 8) sc_law.nd rfl (by first | exact Or.inl rfl | exact Or.inr rfl)) (npin_of (by decide))) (bss_cons (bs_set (i := 15) sc_law.nd rfl (by first | exact Or.inl rfl | exact Or.inr rfl) (npin_of (by decide)) (be_make0 (A.ca_Framer) T.mk_Framer (ok_Framer___init__ T) (hr.mono (by decide)) rfl T.g_Framer T.b_Framer___init__ (takes_of rfl rfl rfl rfl) rfl) rfl (by first | exact Or.inl rfl | exact Or.inr rfl))
      (bss_cons (bs_set (i := 16) sc_law.nd rfl (by first | exact Or.inl rfl | exact Or.inr rfl) (npin_of (by decide)) (be_call (ok_law_fed T) (hr.mono (by decide)) rfl T.m_law_fed T.F_law_fed.kp T.b_law_fed (takes_of rfl rfl rfl rfl) (ba_io (pv 15) (ba_cons (be_lst (ba_cons (be_sl rfl (be_name (pv 3)) bp_none (bp_some (be_name (pv 8)))) (ba_cons (be_sl rfl (be_name (pv 3)) (bp_some (be_name (pv 8))) bp_none) ba_nil rfl) rfl)) ba_nil rfl) rfl) rfl rfl rfl) rfl (by first | exact Or.inl rfl | exact Or.inr rfl))
      (bss_one (bs_if (bt_w (bw_or (bt_not (bt_val (be_call (ok_law_same T _) (hr.mono (by decide)) rfl T.m_law_same T.F_law_same.kp T.b_law_same (takes_of rfl rfl rfl rfl) (ba_cons (be_name (pv 16)) (ba_cons (be_name (pv 5)) ba_nil rfl) rfl) rfl rfl rfl) fun _ => rfl)) (bw_or1 (bt_not (bt_val (be_call (ok_law_same T _) (hr.mono (by decide)) rfl T.m_law_same T.F_law_same.kp T.b_law_same (takes_of rfl rfl rfl rfl) (ba_cons (be_meth0 (A.ca_Framer) T.cl_Framer T.me_Framer_pending (ok_Framer_pending T) (hr.mono (by decide)) T.b_Framer_pending (takes_of rfl rfl rfl rfl) (pv 15) rfl) (ba_cons (be_name (pv 7)) ba_nil rfl) rfl) rfl rfl rfl) fun _ => rfl))))) (bss_one (bs_ret be_bl)) bss_nil)))) fun _ => rfl)
      (bss_cons (bs_set (i := 9) sc_law.nd rfl (by first | exact Or.inl rfl | exact Or.inr rfl) (npin_of (by decide)) (be_make0 (A.ca_Framer) T.mk_Framer (ok_Framer___init__ T) (hr.mono (by decide)) rfl T.g_Framer T.b_Framer___init__ (takes_of rfl rfl rfl rfl) rfl) rfl (by first | exact Or.inl rfl | exact Or.inr rfl))
      (bss_cons (bs_set (i := 10) sc_law.nd rfl (by first | exact Or.inl rfl | exact Or.inr rfl) (npin_of (by decide)) (be_make0 (A.ca_Framer) T.mk_Framer (ok_Framer___init__ T) (hr.mono (by decide)) rfl T.g_Framer T.b_Framer___init__ (takes_of rfl rfl rfl rfl) rfl) rfl (by first | exact Or.inl rfl | exact Or.inr rfl))
      (bss_cons (bs_set (i := 11) sc_law.nd rfl (by first | exact Or.inl rfl | exact Or.inr rfl) (npin_of (by decide)) (be_lst ba_nil) rfl (by first | exact Or.inl rfl | exact Or.inr rfl))
      (bss_cons (bs_for (passes_of rfl) rfl (bi_rng1 rfl T.z_range (ba_cons (be_callB (pcB call_len rfl T.z_len bt_len (by decide) rfl rfl rfl) lenS (ba_io (pv 3) ba_nil rfl)) ba_nil rfl) rfl) (bg_name (pg_name (i := 6) sc_law.nd rfl (by first | exact Or.inl rfl | exact Or.inr rfl)) (npin_of (by decide))) (bss_cons (bs_set (i := 16) sc_law.nd rfl (by first | exact Or.inl rfl | exact Or.inr rfl) (npin_of (by decide)) (be_meth (A.ca_Framer) T.cl_Framer T.me_Framer_feed (ok_Framer_feed T) (hr.mono (by decide)) T.b_Framer_feed (takes_of rfl rfl rfl rfl) (pv 9) (ba_cons (be_lst (ba_cons (be_ixN (hu_of hr) rfl (pv 3) (be_name (pv 6)) fun _ _ => rfl) ba_nil rfl)) ba_nil rfl) rfl rfl rfl) rfl (by first | exact Or.inl rfl | exact Or.inr rfl))
      (bss_cons (bs_if (bt_w (bw_or (bt_not (bt_val (be_callB (pcB call_isiA rfl T.z_isinstance bt_isinstance (by decide) rfl rfl rfl) isiS (ba_io (pv 16) (ba_cons (be_ty rfl T.z_list bt_list (by decide) rfl) ba_nil rfl) rfl)) fun _ => rfl)) (bw_or1 (bt_not (bt_val (be_call (ok_law_same T _) (hr.mono (by decide)) rfl T.m_law_same T.F_law_same.kp T.b_law_same (takes_of rfl rfl rfl rfl) (ba_cons (be_meth0 (A.ca_Framer) T.cl_Framer T.me_Framer_pending (ok_Framer_pending T) (hr.mono (by decide)) T.b_Framer_pending (takes_of rfl rfl rfl rfl) (pv 9) rfl) (ba_cons (be_ixN (hu_of hr) rfl (pv 4) (be_name (pv 6)) fun _ _ => rfl) ba_nil rfl) rfl) rfl rfl rfl) fun _ => rfl))))) (bss_one (bs_ret be_bl)) bss_nil)
      (bss_one (bs_set (i := 11) sc_law.nd rfl (by first | exact Or.inl rfl | exact Or.inr rfl) (npin_of (by decide)) (be_bin op_addA addS (be_name (pv 11)) (be_name (pv 16))) rfl (by first | exact Or.inl rfl | exact Or.inr rfl))))) fun _ => rfl)
      (bss_cons (bs_if (bt_w (bw_or (bt_not (bt_val (be_call (ok_law_same T _) (hr.mono (by decide)) rfl T.m_law_same T.F_law_same.kp T.b_law_same (takes_of rfl rfl rfl rfl) (ba_cons (be_name (pv 11)) (ba_cons (be_name (pv 5)) ba_nil rfl) rfl) rfl rfl rfl) fun _ => rfl)) (bw_or1 (bt_not (bt_val (be_call (ok_law_same T _) (hr.mono (by decide)) rfl T.m_law_same T.F_law_same.kp T.b_law_same (takes_of rfl rfl rfl rfl) (ba_cons (be_meth0 (A.ca_Framer) T.cl_Framer T.me_Framer_pending (ok_Framer_pending T) (hr.mono (by decide)) T.b_Framer_pending (takes_of rfl rfl rfl rfl) (pv 10) rfl) (ba_cons be_int ba_nil rfl) rfl) rfl rfl rfl) fun _ => rfl))))) (bss_one (bs_ret be_bl)) bss_nil)
      (bss_cons (bs_set (i := 12) sc_law.nd rfl (by first | exact Or.inl rfl | exact Or.inr rfl) (npin_of (by decide)) (be_call (ok_law_cuttings T) (hr.mono (by decide)) rfl T.m_law_cuttings T.F_law_cuttings.kp T.b_law_cuttings (takes_of rfl rfl rfl rfl) (ba_io (pv 1) (ba_cons (be_name (pv 3)) (ba_cons be_int ba_nil rfl) rfl) rfl) rfl rfl rfl) rfl (by first | exact Or.inl rfl | exact Or.inr rfl))
      (bss_cons (bs_if (bt_w (bw_or (bt_not (bt_val (be_call (ok_law_same T _) (hr.mono (by decide)) rfl T.m_law_same T.F_law_same.kp T.b_law_same (takes_of rfl rfl rfl rfl) (ba_cons (be_call (ok_law_fed T) (hr.mono (by decide)) rfl T.m_law_fed T.F_law_fed.kp T.b_law_fed (takes_of rfl rfl rfl rfl) (ba_io (pv 10) (ba_cons (be_name (pv 12)) ba_nil rfl) rfl) rfl rfl rfl) (ba_cons (be_name (pv 5)) ba_nil rfl) rfl) rfl rfl rfl) fun _ => rfl)) (bw_or1 (bt_not (bt_val (be_call (ok_law_same T _) (hr.mono (by decide)) rfl T.m_law_same T.F_law_same.kp T.b_law_same (takes_of rfl rfl rfl rfl) (ba_cons (be_meth0 (A.ca_Framer) T.cl_Framer T.me_Framer_pending (ok_Framer_pending T) (hr.mono (by decide)) T.b_Framer_pending (takes_of rfl rfl rfl rfl) (pv 10) rfl) (ba_cons (be_name (pv 7)) ba_nil rfl) rfl) rfl rfl rfl) fun _ => rfl))))) (bss_one (bs_ret be_bl)) bss_nil)
      (bss_one (bs_ret (be_and (be_call (ok_law_same T _) (hr.mono (by decide)) rfl T.m_law_same T.F_law_same.kp T.b_law_same (takes_of rfl rfl rfl rfl) (ba_cons (be_meth (A.ca_Framer) T.cl_Framer T.me_Framer_feed (ok_Framer_feed T) (hr.mono (by decide)) T.b_Framer_feed (takes_of rfl rfl rfl rfl) (pv 10) (ba_cons (be_call (ok_law_frame T) (hr.mono (by decide)) rfl T.m_law_frame T.F_law_frame.kp T.b_law_frame (takes_of rfl rfl rfl rfl) (ba_cons be_int (ba_cons be_int (ba_cons (be_lst (ba_cons be_int ba_nil rfl)) ba_nil rfl) rfl) rfl) rfl rfl rfl) ba_nil rfl) rfl rfl rfl) (ba_cons (be_lst (ba_cons (be_tup (ba_cons be_int (ba_cons be_int (ba_cons (be_lst (ba_cons be_int ba_nil rfl)) ba_nil rfl) rfl) rfl)) ba_nil rfl)) ba_nil rfl) rfl) rfl rfl rfl) (be_one (be_cmp (op_eqD hr.units) eqS (nomark _) (be_meth0 (A.ca_Framer) T.cl_Framer T.me_Framer_pending (ok_Framer_pending T) (hr.mono (by decide)) T.b_Framer_pending (takes_of rfl rfl rfl rfl) (pv 10) rfl) be_int))))))))))))))))))))
end
end K26

set_option Elab.async false
set_option linter.all false
namespace K26
open PySem L2 Bx Lw
set_option maxRecDepth 100000
set_option maxHeartbeats 4000000
theorem log_small {i : Int} (h : i.natAbs < 1152921504606846976) : i.natAbs.log2 < 1920 := by
  by_cases z : i.natAbs = 0
  · rw [z]; simp
  · have := (Nat.log2_lt (n := i.natAbs) (k := 60) z).mpr (by omega)
    omega
def Fz (evs : List D) : Prop := frzs evs = evs
theorem Fz.app {a b : List D} (h : Fz a) (k : Fz b) : Fz (a ++ b) := by
  unfold Fz at *
  rw [frzs_map] at *
  rw [List.map_append, h, k]
theorem run_fz : ∀ {xs : List Int} {s : Fm}, Fz (run s xs).2.1
  | [], s => rfl
  | x :: xs, s => by
    rw [run_cons]
    refine Fz.app ?_ run_fz
    unfold stpF
    split
    · unfold Fz evt
      generalize List.drop 3 _ = ns
      simp
    · rfl
theorem run_m : ∀ {xs : List Int} {s : Fm}, (run s xs).1.m = (run s xs).2.2.getLastD s.m
  | [], s => rfl
  | x :: xs, s => by
    rw [run_cons]
    dsimp only
    rw [run_m (xs := xs), List.getLastD_cons]
def pcs (ps : List (List Int)) : List D := ps.map fun xs => .nd .lst false (xs.map D.int)
theorem fed_loop {o : Option D} : ∀ {ps : List (List Int)} {s : Fm} {evs : List D} {x3 x4 : Option D}, Gd s → Fz evs → evs.length + ps.flatten.length ≤ 1000000 → ∃ x3' x4', forL (gN 3) (fSeq (fAsg (gN 4) (eMeth "Framer" "feed" 2 0 F_Framer_feed (aCons (eCallF listD (aCons (eN 3) aNil)) aNil))) (fSeq (fIf (tNt (tTst (eCallB isiD (aIo 4 (aCons (eC (.ty "list")) aNil))))) (fRet (eC .non)) fNext) (fAsg (gN 2) (eBin addD (eN 2) (eN 4)))))
    (pcs ps) ⟨[some s.d, o, some (.nd .lst true evs), x3, x4], none⟩ = .nx ⟨[some (run s ps.flatten).1.d, o, some (.nd .lst true (evs ++ (run s ps.flatten).2.1)), x3', x4'], none⟩
  | [], s, evs, x3, x4, _, _, _ => ⟨x3, x4, by simp [pcs]; exact ⟨rfl, rfl⟩⟩
  | p :: ps, s, evs, x3, x4, g, hz, hl => by
    rw [List.flatten_cons, List.length_append] at hl
    have hf := feed_ok (s := s) (xs := p) (o := true) g (by omega)
    have he := run_evs (xs := p) (s := s)
    have hz2 : frzs (run s p).2.1 = (run s p).2.1 := run_fz
    have hz1 : frzs evs = evs := hz
    obtain ⟨x3', x4', ih⟩ := fed_loop (o := o) (ps := ps) (s := (run s p).1) (evs := evs ++ (run s p).2.1) (x3 := some (.nd .lst false (p.map D.int))) (x4 := some (.nd .lst false (run s p).2.1)) (run_gd g) (hz.app run_fz) (by rw [List.length_append]; omega)
    refine ⟨x3', x4', ?_⟩
    rw [List.flatten_cons, run_app]
    dsimp only
    rw [← List.append_assoc, ← ih]
    have hn : evs.length + (run s p).2.1.length ≤ 16000000 := by omega
    refine forL_step (e1 := ⟨[some s.d, o, some (.nd .lst true evs), some (.nd .lst false (p.map D.int)), x4], none⟩) (by simp) ?_
    simp [hf, isiD, tyD, tyNs, subT, hz1, hz2, hn, lim]
theorem frz_pcs {ps : List (List Int)} {o : Bool} : frzs (ps.map fun xs => D.nd .lst o (xs.map D.int)) = pcs ps := by
  rw [frzs_map, List.map_map]
  unfold pcs
  apply List.map_congr_left
  intro xs _
  simp
theorem fed_ok {ps : List (List Int)} {s : Fm} {o o' : Bool} (g : Gd s) (hl : ps.flatten.length ≤ 100000) : F_law_fed [s.d, .nd .lst o (ps.map fun xs => D.nd .lst o' (xs.map D.int))] = .ok (.nd .lst true (run s ps.flatten).2.1) [some (run s ps.flatten).1.d, none] := by
  obtain ⟨x3, x4, h⟩ := fed_loop (o := some (.nd .lst false (pcs ps))) (ps := ps) (s := s) (evs := []) (x3 := none) (x4 := none) g rfl (by rw [List.length_nil]; omega)
  rw [List.nil_append] at h
  have hz : frzs (pcs ps) = pcs ps := by
    have := frz_pcs (ps := ps) (o := true)
    rw [← this, frzs_id]
  unfold F_law_fed B_law_fed
  simp [fDef_ap, lim, outs, -List.map_map, frz_pcs, hz, h]
/-- what a thing is -/
def TH (xs : List Int) (evs : List D) (ws : List Int) : Prop := ∀ s, (run s xs).2 = (evs, ws)
theorem TH.len {xs ws : List Int} {evs : List D} (h : TH xs evs ws) : ws.length = xs.length := by
  have h1 := h ⟨[], true, false, 0⟩
  have h2 := run_pend (xs := xs) (s := ⟨[], true, false, 0⟩)
  rw [h1] at h2; exact h2
theorem run_junk : ∀ {xs : List Int} {s : Fm}, s.m = 0 → (∀ x ∈ xs, x ≠ 126) → run s xs = (s, [], List.replicate xs.length 0)
  | [], s, _, _ => rfl
  | x :: xs, s, h, hx => by
    have h1 := hx x List.mem_cons_self
    have s1 : stpF s x = (s, []) := by unfold stpF stp; simp [h, h1]
    rw [run_cons, s1]
    dsimp only
    rw [run_junk h fun y hy => hx y (List.mem_cons_of_mem _ hy), h]
    rfl
theorem iot_len {m : Int} {L : Nat} : (iot m L).length = L := by simp [iot]
theorem iot_take {m : Int} {a b : Nat} {t : List Int} (h : a ≤ b) : (iot m b ++ t).take a = iot m a := by
  obtain ⟨c, rfl⟩ := Nat.exists_eq_add_of_le h
  rw [iot_app, List.append_assoc]
  exact List.take_left' iot_len
theorem th_cut {ses head : Int} {ms : List Int} {k : Nat} (hs : Byt ses) (hh : Byt head) (hm : ∀ x ∈ ms, Byt x) (hl : ms.length ≤ 120) (hk : k < (frm ses head ms).length) : TH ((frm ses head ms).take k) [] (iot 0 k) := fun s => by
  obtain ⟨b, w, h, _⟩ := run_frm (s0 := s) hs hh hm hl
  have h2 := run_app (xs := (frm ses head ms).take k) (ys := (frm ses head ms).drop k) (s := s)
  rw [List.take_append_drop, h] at h2
  have h3 := congrArg (fun z => z.2.2) h2
  dsimp only at h3
  have h4 := run_pend (xs := (frm ses head ms).take k) (s := s)
  rw [List.length_take, Nat.min_eq_left (Nat.le_of_lt hk)] at h4
  have h5 : (run s ((frm ses head ms).take k)).2.2 = iot 0 k := by
    rw [← iot_take (m := 0) (a := k) (b := (frm ses head ms).length - 1) (t := [0]) (by omega), h3]
    exact (List.take_left' h4).symm
  have h6 : (run s ((frm ses head ms).take k)).2.1 = [] := run_noev fun p hp => by
    rw [h5] at hp
    obtain ⟨i, _, rfl⟩ := List.mem_map.mp hp
    omega
  rw [← h5, ← h6]
theorem th_whole {ses head : Int} {ms junk : List Int} (hs : Byt ses) (hh : Byt head) (hm : ∀ x ∈ ms, Byt x) (hl : ms.length ≤ 120) (hj : ∀ x ∈ junk, x ≠ 126) :
    TH (frm ses head ms ++ junk) [.nd .tup false [.int ses, .int head, .nd .lst false (ms.map D.int)]] (iot 0 ((frm ses head ms).length - 1) ++ [0] ++ List.replicate junk.length 0) := fun s => by
  obtain ⟨b, w, h, _⟩ := run_frm (s0 := s) hs hh hm hl
  rw [run_app, h]
  dsimp only
  rw [run_junk rfl hj]
  simp
theorem lc_succ {sl : List (Option D)} {ex : Option Exc} {j L : Nat} (h : sl[j]? = some none) (hL : L ≤ 1000000) : lcL [j] (gN j) tYesF (eBin addD (eN j) (eC (.int 1))) (rngD 0 L) [] ⟨sl, ex⟩ = .ok ((iot 0 L).map .int) ⟨sl, ex⟩ := by
  have hj : j < sl.length := (List.getElem?_eq_some_iff.mp h).1
  have hs : sl.set j none = sl := set_same h
  rw [lcL_map (vs := [j]) (base := ⟨sl, ex⟩) (y := fun d => match d with | .int i => .int (i + 1) | d => d) (acc := []) (fun x hx => by
    obtain ⟨i, hi, rfl⟩ := rngD_mem hx
    exact ⟨_, _, _, by simp [hj]; rfl, rfl, by simp [hj]; rfl, by simp [hs]⟩) (by simp [lim]; omega)]
  rw [List.nil_append]
  unfold rngD iot
  rw [List.map_map, List.map_map]
  rfl
theorem lc_zero {sl : List (Option D)} {ex : Option Exc} {j : Nat} {xs : List D} (h : sl[j]? = some none) (hL : xs.length ≤ 1000000) : lcL [j] (gN j) tYesF (eC (.int 0)) xs [] ⟨sl, ex⟩ = .ok ((List.replicate xs.length (0 : Int)).map .int) ⟨sl, ex⟩ := by
  have hj : j < sl.length := (List.getElem?_eq_some_iff.mp h).1
  have hs : sl.set j none = sl := set_same h
  rw [lcL_map (vs := [j]) (base := ⟨sl, ex⟩) (y := fun d => .int 0) (acc := []) (fun x hx => by
    exact ⟨_, _, _, by simp [hj]; rfl, rfl, by simp; rfl, by simp [hs]⟩) (by simp [lim]; omega)]
  rw [List.nil_append]
  simp [List.map_const']
theorem lc_shift {sl : List (Option D)} {ex : Option Exc} {j : Nat} {xs : List Int} (h : sl[j]? = some none) (hL : xs.length ≤ 1000000) : lcL [j] (gN j) tYesF (eIf (tTst (eBin gtD (eN j) (eC (.int 125)))) (eBin addD (eN j) (eC (.int 1))) (eN j)) (xs.map D.int) [] ⟨sl, ex⟩ = .ok ((xs.map fun i => if 125 < i then i + 1 else i).map .int) ⟨sl, ex⟩ := by
  have hj : j < sl.length := (List.getElem?_eq_some_iff.mp h).1
  have hs : sl.set j none = sl := set_same h
  rw [lcL_map (vs := [j]) (base := ⟨sl, ex⟩) (y := fun d => match d with | .int i => .int (if 125 < i then i + 1 else i) | d => d) (acc := []) (fun x hx => by
    obtain ⟨i, hi, rfl⟩ := List.mem_map.mp hx
    by_cases c : 125 < i
    · exact ⟨_, _, _, by simp [hj]; rfl, rfl, by simp [hj, c]; rfl, by simp [hs]⟩
    · exact ⟨_, _, _, by simp [hj]; rfl, rfl, by simp [hj, c]; rfl, by simp [hs]⟩) (by simp [lim]; omega)]
  rw [List.nil_append, List.map_map, List.map_map]
  rfl
theorem pick_at {sl : List (Option D)} {ex : Option Exc} {i : Nat} {m r : Int} {s s' : D} (hi : sl[i]? = some (some s)) (e : F_law_pick [s, .int m] = .ok (.int r) [some s', none]) :
    eCall 2 F_law_pick (aIo i (aCons (eC (.int m)) aNil)) ⟨sl, ex⟩ = .ok (.int r) ⟨sl.set i (some s'), ex⟩ := by
  have li : i < sl.length := (List.getElem?_eq_some_iff.mp hi).1
  have h2 : (sl.set i none)[i]? = some none := List.getElem?_set_self li
  rw [eCall_ap, aIo_ap, hi]
  dsimp only
  rw [aCons_ap, eC_ap, Rs.bind_ok, kCons_ap, aNil_ap, Rs.bind_ok, kCons2_ap, Rs.bind_ok, kCons2_ap, Rs.bind_ok, kCall_ap, takeA_io, hi]
  dsimp only
  rw [takeA_d, takeA_nil]
  simp only [Option.map_some, callT_some, List.length_cons, List.length_nil, Nat.zero_add, Nat.reduceAdd, if_true, e, callF_ok, putA_io, h2]
  rw [putA_d, putA_nil, callP_some, List.set_set]
/-- numbers drawn in a row: slot i the stock, m the bound -/
theorem lc_pick {sl : List (Option D)} {ex : Option Exc} {i j L n : Nat} {m : Int} {s : D} (hi : sl[i]? = some (some s)) (hj : sl[j]? = some none) (hn : i ≠ j) (hm : 0 < m) (hm2 : m < 2 ^ 60) (hs : Stk (n + L) s) (hL : L ≤ 1000000) :
    ∃ (xs : List Int) (s' : D), lcL [j] (gN j) tYesF (eCall 2 F_law_pick (aIo i (aCons (eC (.int m)) aNil))) (rngD 0 L) [] ⟨sl, ex⟩ = .ok (xs.map D.int) ⟨sl.set i (some s'), ex⟩ ∧ xs.length = L ∧ (∀ x ∈ xs, 0 ≤ x ∧ x < m) ∧ Stk n s' := by
  have li : i < sl.length := (List.getElem?_eq_some_iff.mp hi).1
  have lj : j < sl.length := (List.getElem?_eq_some_iff.mp hj).1
  obtain ⟨ys, e', hl, hy, hp, hI⟩ := lcL_ex (vs := [j]) (g := gN j) (tt := tYesF) (el := eCall 2 F_law_pick (aIo i (aCons (eC (.int m)) aNil))) (xs := rngD 0 L) (acc := []) (e := ⟨sl, ex⟩) (j := 0)
    (I := fun k e => ∃ s, e = ⟨sl.set i (some s), ex⟩ ∧ Stk (n + L - k) s) (P := fun y => ∃ x, y = .int x ∧ 0 ≤ x ∧ x < m) ⟨s, by rw [set_same hi], hs⟩ (fun k x hx e he => by
      obtain ⟨s, rfl, hs⟩ := he
      obtain ⟨hi', rfl⟩ := rngD_at hx
      obtain ⟨r, s', e2, h1, h2, hs'⟩ := pick_ok (n := n + L - (0 + k + 1)) (s := s) (m := m) (hs.le (by omega)) hm hm2
      have g1 : ((sl.set i (some s)).set j (some (.int (0 + (k : Int)))))[i]? = some (some s) := by rw [List.getElem?_set_ne hn.symm, List.getElem?_set_self li]
      refine ⟨⟨(sl.set i (some s)).set j (some (.int (0 + (k : Int)))), ex⟩, _, ⟨((sl.set i (some s)).set j (some (.int (0 + (k : Int))))).set i (some s'), ex⟩, _, by rw [gN_ap, if_pos (by rw [List.length_set]; exact lj)], rfl, ?_, ⟨r, rfl, h1, h2⟩, s', ?_, hs'⟩
      · exact pick_at g1 e2
      · have q : (((sl.set i (some s)).set j (some (.int (0 + (k : Int))))).set i (some s')).set j none = sl.set i (some s') := by
          rw [List.set_comm _ _ hn.symm, List.set_set, List.set_set, List.set_comm _ _ hn, set_same hj]
        rw [delL_cons, delL_nil, En.del_mk, q]) (by simp [lim]; omega)
  obtain ⟨s', rfl, hs'⟩ := hI
  obtain ⟨ms, rfl, hb⟩ := ints_of hp
  rw [List.nil_append] at hl
  exact ⟨ms, s', hl, by simpa using hy, hb, hs'.le (by simp)⟩
/-- the same, the bound a list's length and one more -/
theorem lc_pick' {sl : List (Option D)} {ex : Option Exc} {i j r L n : Nat} {xs : List Int} {o : Bool} {s : D} (hi : sl[i]? = some (some s)) (hj : sl[j]? = some none) (hr : sl[r]? = some (some (.nd .lst o (xs.map D.int)))) (hn : i ≠ j) (nri : r ≠ i) (hs : Stk (n + L) s) (hL : L ≤ 1000000) (hx : xs.length < 1000000) :
    ∃ (ys : List Int) (s' : D), lcL [j] (gN j) tYesF (eCall 2 F_law_pick (aIo i (aCons (eBin addD (eCallB lenD (aIo r aNil)) (eC (.int 1))) aNil))) (rngD 0 L) [] ⟨sl, ex⟩ = .ok (ys.map D.int) ⟨sl.set i (some s'), ex⟩ ∧ ys.length = L ∧ (∀ x ∈ ys, 0 ≤ x ∧ x < (xs.length : Int) + 1) ∧ Stk n s' := by
  have li : i < sl.length := (List.getElem?_eq_some_iff.mp hi).1
  have lj : j < sl.length := (List.getElem?_eq_some_iff.mp hj).1
  have nrj : r ≠ j := fun z => by subst z; rw [hj] at hr; cases hr
  obtain ⟨ys, e', hl, hy, hp, hI⟩ := lcL_ex (vs := [j]) (g := gN j) (tt := tYesF) (el := eCall 2 F_law_pick (aIo i (aCons (eBin addD (eCallB lenD (aIo r aNil)) (eC (.int 1))) aNil))) (xs := rngD 0 L) (acc := []) (e := ⟨sl, ex⟩) (j := 0)
    (I := fun k e => ∃ s, e = ⟨sl.set i (some s), ex⟩ ∧ Stk (n + L - k) s) (P := fun y => ∃ x, y = .int x ∧ 0 ≤ x ∧ x < (xs.length : Int) + 1) ⟨s, by rw [set_same hi], hs⟩ (fun k x hx e he => by
      obtain ⟨s, rfl, hs⟩ := he
      obtain ⟨hi', rfl⟩ := rngD_at hx
      obtain ⟨r', s', e2, h1, h2, hs'⟩ := pick_ok (n := n + L - (0 + k + 1)) (s := s) (m := (xs.length : Int) + 1) (hs.le (by omega)) (by omega) (by omega)
      have g1 : ((sl.set i (some s)).set j (some (.int (0 + (k : Int)))))[i]? = some (some s) := by rw [List.getElem?_set_ne hn.symm, List.getElem?_set_self li]
      have g2 : ((sl.set i (some s)).set j (some (.int (0 + (k : Int)))))[r]? = some (some (.nd .lst o (xs.map D.int))) := by rw [List.getElem?_set_ne nrj.symm, List.getElem?_set_ne nri.symm, hr]
      refine ⟨⟨(sl.set i (some s)).set j (some (.int (0 + (k : Int)))), ex⟩, _, ⟨((sl.set i (some s)).set j (some (.int (0 + (k : Int))))).set i (some s'), ex⟩, _, by rw [gN_ap, if_pos (by rw [List.length_set]; exact lj)], rfl, ?_, ⟨r', rfl, h1, h2⟩, s', ?_, hs'⟩
      · have el : ∀ sl2 : List (Option D), sl2[r]? = some (some (.nd .lst o (xs.map D.int))) → eBin addD (eCallB lenD (aIo r aNil)) (eC (.int 1)) ⟨sl2, ex⟩ = .ok (.int ((xs.length : Int) + 1)) ⟨sl2, ex⟩ := fun sl2 g2 => by
          rw [eBin_ap, eCallB_ap, aIo_ap, g2]
          simp [g2]
        have el := el _ g2
        have := pick_at (ex := ex) g1 e2
        rw [eCall_ap, aIo_ap, g1] at this ⊢
        dsimp only at this ⊢
        rw [aCons_ap, el]
        rw [aCons_ap, eC_ap] at this
        exact this
      · have q : (((sl.set i (some s)).set j (some (.int (0 + (k : Int))))).set i (some s')).set j none = sl.set i (some s') := by
          rw [List.set_comm _ _ hn.symm, List.set_set, List.set_set, List.set_comm _ _ hn, set_same hj]
        rw [delL_cons, delL_nil, En.del_mk, q]) (by simp [lim]; omega)
  obtain ⟨s', rfl, hs'⟩ := hI
  obtain ⟨ms, rfl, hb⟩ := ints_of hp
  rw [List.nil_append] at hl
  exact ⟨ms, s', hl, by simpa using hy, hb, hs'.le (by simp)⟩
def evD (ses head : Int) (ms : List Int) : D := .nd .tup false [.int ses, .int head, .nd .lst false (ms.map D.int)]
theorem frm_len {ses head : Int} {ms : List Int} : (frm ses head ms).length ≤ 2 * ms.length + 9 ∧ 1 ≤ (frm ses head ms).length := by
  unfold frm escd bod
  have := escs_len (b := (((ms.length : Int) + 3) :: ses :: head :: ms ++ [(ses :: head :: ms).sum % 256]))
  rw [List.length_cons]
  simp only [List.length_append, List.length_cons, List.length_nil] at this
  exact ⟨by omega, by omega⟩
theorem junk_ok {n : Nat} {s5 : D} {a1 a2 a3 a4 : Option D} (k5 : Stk (n + 10) s5) : ∃ (junk : List Int) (s8 : D) (o : Bool),
    (fIf (tTst (eBin eqD (eCall 2 F_law_pick (aIo 0 (aCons (eC (.int 3)) aNil))) (eC (.int 0)))) (fSeq (fAsg (gN 5) (eLc [8] (iRng1 (aCons (eBin addD (eC (.int 1)) (eCall 2 F_law_pick (aIo 0 (aCons (eC (.int 3)) aNil)))) aNil)) (gN 8) tYesF (eCall 2 F_law_pick (aIo 0 (aCons (eC (.int 255)) aNil))))) (fAsg (gN 5) (eLc [9] (iE (eN 5)) (gN 9) tYesF (eIf (tTst (eBin gtD (eN 9) (eC (.int 125)))) (eBin addD (eN 9) (eC (.int 1))) (eN 9))))) fNext)
      ⟨[some s5, a1, a2, a3, a4, some (.nd .lst true []), none, none, none, none], none⟩ = .nx ⟨[some s8, a1, a2, a3, a4, some (.nd .lst o (junk.map D.int)), none, none, none, none], none⟩ ∧ (∀ x ∈ junk, x ≠ 126) ∧ junk.length ≤ 10 ∧ Stk n s8 := by
  obtain ⟨r6, s6, e6, a6, c6, k6⟩ := pick_ok (n := n + 9) (m := 3) k5 (by decide) (by decide)
  by_cases h6 : r6 = 0
  · subst h6
    obtain ⟨r7, s7, e7, a7, c7, k7⟩ := pick_ok (n := n + 8) (m := 3) k6 (by decide) (by decide)
    have hr : rngA1 [.int (1 + r7)] = some (rngD 0 (1 + r7).toNat) := rngA1_ok (by omega) (by omega)
    obtain ⟨xs, s8, e8, xl, xb, k8⟩ := lc_pick (sl := [some s7, a1, a2, a3, a4, some (.nd .lst true []), none, none, none, none]) (ex := none) (i := 0) (j := 8) (L := (1 + r7).toNat) (n := n) (m := 255) rfl rfl (by decide) (by decide) (by decide) (k7.le (by omega)) (by omega)
    have hl := lc_shift (sl := [some s8, a1, a2, a3, a4, some (.nd .lst false (xs.map D.int)), none, none, none, none]) (ex := none) (j := 9) (xs := xs) rfl (by omega)
    refine ⟨xs.map fun i => if 125 < i then i + 1 else i, s8, true, ?_, fun x hx => ?_, by rw [List.length_map]; omega, k8⟩
    · simp only [List.set_cons_zero] at e8
      generalize (xs.map fun i => if 125 < i then i + 1 else i) = ys at hl ⊢
      simp [e6, eqD_int, e7, hr, e8, hl, -rngA1_ok]
    · obtain ⟨y, hy, rfl⟩ := List.mem_map.mp hx
      have := xb y hy
      split <;> omega
  · exact ⟨[], s6, true, by simp [e6, eqD_int, h6], by simp, by simp, k6.le (by omega)⟩
theorem thing_ok {n : Nat} {s : D} (h : Stk (n + 40) s) : ∃ (xs : List Int) (told : D) (evs : List D) (ws : List Int) (s' : D),
    F_law_thing [s] = .ok (.nd .tup false [.nd .lst false (xs.map D.int), told, .nd .lst false (ws.map D.int)]) [some s'] ∧ Stk n s' ∧ TH xs evs ws ∧ xs.length ≤ 40 ∧
      ((told = .non ∧ evs = []) ∨ (∃ ses head ms, told = evD ses head ms ∧ evs = [evD ses head ms] ∧ Byt ses ∧ Byt head ∧ (∀ x ∈ ms, Byt x) ∧ ms.length ≤ 5)) := by
  obtain ⟨ms, s1, e1, l1, b1, k1⟩ := message_ok (n := n + 29) (most := 5) (by decide) h
  have e1 : F_law_message [s, .int 5] = .ok (.nd .lst true (ms.map D.int)) [some s1, none] := e1
  obtain ⟨ses, s2, e2, b2, k2⟩ := octet_ok (n := n + 27) k1
  obtain ⟨head, s3, e3, b3, k3⟩ := octet_ok (n := n + 25) k2
  have e4 := frame_ok (ses := ses) (head := head) (ms := ms) (o := false) (by omega)
  have fl := frm_len (ses := ses) (head := head) (ms := ms)
  obtain ⟨r5, s5, e5, a5, c5, k5⟩ := pick_ok (n := n + 24) (m := 5) k3 (by decide) (by decide)
  unfold F_law_thing B_law_thing
  by_cases h5 : r5 < 2
  · obtain ⟨k, s6, e6, a6, c6, k6⟩ := pick_ok (n := n + 23) (m := ((frm ses head ms).length : Int)) k5 (by omega) (by omega)
    have hk : ((k.toNat : Int)) = k := by omega
    have hr : rngA1 [.int k] = some (rngD 0 k.toNat) := rngA1_ok (by omega) (by omega)
    have hc : cutD ((frm ses head ms).map D.int) none (some k) = ((frm ses head ms).take k.toNat).map D.int := by
      have := cutD_upto (xs := (frm ses head ms).map D.int) (k := k.toNat) (by rw [List.length_map]; omega)
      rw [hk] at this
      rw [this, List.map_take]
    refine ⟨(frm ses head ms).take k.toNat, .non, [], iot 0 k.toNat, s6, ?_, k6.le (by omega), th_cut b2 b3 b1 (by omega) (by omega), by rw [List.length_take]; omega, .inl ⟨rfl, rfl⟩⟩
    have hl := lc_succ (sl := [some s6, some (.nd .lst false (ms.map D.int)), some (.int ses), some (.int head), some (.nd .lst false ((frm ses head ms).map D.int)), none, none, some (.int k), none, none]) (ex := none) (j := 8) (L := k.toNat) rfl (by omega)
    generalize hx : (frm ses head ms).take k.toNat = xs at hc ⊢
    simp [fDef_ap, e1, e2, e3, e4, e5, h5, e6, hr, hc, hl, outs, -rngA1_ok, lim]
  · obtain ⟨r6, s6, e6, a6, c6, k6⟩ := pick_ok (n := n + 23) (m := 3) k5 (by decide) (by decide)
    have hn : ((((frm ses head ms).length - 1 : Nat) : Int)) = ((frm ses head ms).length : Int) - 1 := by omega
    have hr : rngA1 [.int (((frm ses head ms).length : Int) - 1)] = some (rngD 0 ((frm ses head ms).length - 1)) := by
      rw [rngA1_ok (by omega) (by omega)]; congr 2; omega
    obtain ⟨junk, s8, o, hJ, hj, jl, k8⟩ := junk_ok (n := n) (a1 := some (.nd .lst false (ms.map D.int))) (a2 := some (.int ses)) (a3 := some (.int head)) (a4 := some (.nd .lst true ((frm ses head ms).map D.int))) (k5.le (by omega) : Stk (n + 10) s5)
    have hl := lc_succ (sl := [some s8, some (.nd .lst false (ms.map D.int)), some (.int ses), some (.int head), some (.nd .lst true ((frm ses head ms).map D.int)), some (.nd .lst o (junk.map D.int)), none, none, none, none]) (ex := none) (j := 8) (L := (frm ses head ms).length - 1) rfl (by omega)
    have hl2 := lc_zero (sl := [some s8, some (.nd .lst false (ms.map D.int)), some (.int ses), some (.int head), some (.nd .lst true ((frm ses head ms).map D.int)), some (.nd .lst false (junk.map D.int)), none, none, none, none]) (ex := none) (j := 9) (xs := junk.map D.int) rfl (by rw [List.length_map]; omega)
    rw [List.length_map] at hl2
    refine ⟨frm ses head ms ++ junk, evD ses head ms, [evD ses head ms], iot 0 ((frm ses head ms).length - 1) ++ [0] ++ List.replicate junk.length 0, s8, ?_, k8, th_whole b2 b3 b1 (by omega) hj, by rw [List.length_append]; omega, .inr ⟨ses, head, ms, rfl, rfl, b2, b3, b1, l1⟩⟩
    have n1 : (frm ses head ms).length + junk.length ≤ 16000000 := by omega
    have n2 : (frm ses head ms).length - 1 + 1 + junk.length ≤ 16000000 := by omega
    have n3 : (frm ses head ms).length - 1 + 1 ≤ 16000000 := by omega
    have i1 : (iot 0 ((frm ses head ms).length - 1)).length = (frm ses head ms).length - 1 := iot_len
    simp [fDef_ap, e1, e2, e3, e4, e5, h5, ↓hJ, hr, hl, hl2, outs, -rngA1_ok, lim, evD, n1, n2, n3, i1]
def pc1 (ps : List (List Int)) : List D := ps.map fun xs => .nd .lst true (xs.map D.int)
theorem cut_loop {a0 a2 a3 : Option D} {row : List Int} : ∀ {cuts : List Int} {b : Int} {ps : List (List Int)} {x6 : Option D}, (b :: cuts).Pairwise (· ≤ ·) → 0 ≤ b → (∀ c ∈ b :: cuts, c ≤ (row.length : Int)) → ps.flatten = row.take b.toNat → ps.length + cuts.length ≤ 1000 →
    ∃ b' ps' x6', forL (gN 6) (fSeq (fExpr (eAppN 4 (eSl (eN 1) (some (eN 5)) (some (eN 6))))) (fAsg (gN 5) (eN 6))) (cuts.map D.int) ⟨[a0, some (.nd .lst false (row.map D.int)), a2, a3, some (.nd .lst true (pc1 ps)), some (.int b), x6, none], none⟩ =
      .nx ⟨[a0, some (.nd .lst false (row.map D.int)), a2, a3, some (.nd .lst true (pc1 ps')), some (.int b'), x6', none], none⟩ ∧ 0 ≤ b' ∧ b' ≤ (row.length : Int) ∧ ps'.flatten = row.take b'.toNat ∧ ps'.length ≤ 1000
  | [], b, ps, x6, _, h0, hb, hp, hl => ⟨b, ps, x6, rfl, h0, hb b List.mem_cons_self, hp, by simpa using hl⟩
  | c :: cuts, b, ps, x6, hs, h0, hb, hp, hl => by
    rw [List.length_cons] at hl
    have hs1 := List.pairwise_cons.mp hs
    have hbc : b ≤ c := hs1.1 c List.mem_cons_self
    have hcl : c ≤ (row.length : Int) := hb c (List.mem_cons_of_mem _ List.mem_cons_self)
    have e3 : cutD (row.map D.int) (some (b.toNat : Int)) (some (c.toNat : Int)) = ((row.take c.toNat).drop b.toNat).map D.int := by
      rw [cutD_mid (xs := row.map D.int) (j := b.toNat) (k := c.toNat) (by rw [List.length_map]; omega) (by omega), List.map_drop, List.map_take]
    rw [Int.toNat_of_nonneg h0, Int.toNat_of_nonneg (Int.le_trans h0 hbc)] at e3
    have hf : (ps ++ [(row.take c.toNat).drop b.toNat]).flatten = row.take c.toNat := by
      rw [List.flatten_append, hp]
      simp only [List.flatten_cons, List.flatten_nil, List.append_nil]
      have : row.take b.toNat = (row.take c.toNat).take b.toNat := by rw [List.take_take, Nat.min_eq_left (by omega)]
      rw [this, List.take_append_drop]
    obtain ⟨b', ps', x6', ih, q⟩ := cut_loop (a0 := a0) (a2 := a2) (a3 := a3) (row := row) (cuts := cuts) (b := c) (ps := ps ++ [(row.take c.toNat).drop b.toNat]) (x6 := some (.int c)) hs1.2 (Int.le_trans h0 hbc) (fun d hd => hb d (List.mem_cons_of_mem _ hd)) hf (by rw [List.length_append, List.length_cons, List.length_nil]; omega)
    refine ⟨b', ps', x6', ?_, q⟩
    rw [List.map_cons, ← ih]
    refine forL_step (e1 := ⟨[a0, some (.nd .lst false (row.map D.int)), a2, a3, some (.nd .lst true (pc1 ps)), some (.int b), some (.int c), none], none⟩) (by simp) ?_
    have hpl : (pc1 ps).length < 16000000 := by unfold pc1; rw [List.length_map]; omega
    have hpa : pc1 (ps ++ [(row.take c.toNat).drop b.toNat]) = pc1 ps ++ [.nd .lst true (((row.take c.toNat).drop b.toNat).map D.int)] := by unfold pc1; rw [List.map_append]; rfl
    rw [hpa]
    generalize (row.take c.toNat).drop b.toNat = ns at e3 ⊢
    generalize pc1 ps = qs at hpl ⊢
    simp [e3, lim, hpl]
theorem cuttings_ok {n : Nat} {s : D} {row : List Int} (h : Stk (n + 20) s) (hl : row.length ≤ 10000) : ∃ (ps : List (List Int)) (s' : D), F_law_cuttings [s, .nd .lst false (row.map D.int), .int 6] = .ok (.nd .lst true (pcs ps)) [some s', none, none] ∧ ps.flatten = row ∧ Stk n s' := by
  obtain ⟨k, s1, e1, a1, c1, k1⟩ := pick_ok (n := n + 19) (m := 7) h (by decide) (by decide)
  have hr : rngA1 [.int k] = some (rngD 0 k.toNat) := rngA1_ok (by omega) (by omega)
  obtain ⟨xs, s2, e2, xl, xb, k2⟩ := lc_pick' (sl := [some s1, some (.nd .lst false (row.map D.int)), some (.int 6), none, none, none, none, none]) (ex := none) (i := 0) (r := 1) (j := 7) (L := k.toNat) (n := n) (xs := row) (o := false) rfl rfl rfl (by decide) (by decide) (k1.le (by omega)) (by omega) (by omega)
  simp only [List.set_cons_zero] at e2
  have hsb : ∀ c ∈ 0 :: sortI xs, 0 ≤ c ∧ c ≤ (row.length : Int) := fun c hc => by
    rcases List.mem_cons.mp hc with rfl | hc
    · omega
    · have := xb c ((sortI_perm xs).mem_iff.mp hc); omega
  obtain ⟨b', ps', x6', e3, b1, b2, b3, b4⟩ := cut_loop (a0 := some s2) (a2 := some (.int 6)) (a3 := some (.nd .lst false ((sortI xs).map D.int))) (row := row) (cuts := sortI xs) (b := 0) (ps := []) (x6 := none)
    (List.pairwise_cons.mpr ⟨fun c hc => (hsb c (List.mem_cons_of_mem _ hc)).1, sortI_le xs⟩) (by omega) (fun c hc => (hsb c hc).2) (by simp) (by rw [(sortI_perm xs).length_eq]; simp; omega)
  have e4 : cutD (row.map D.int) (some (b'.toNat : Int)) none = (row.drop b'.toNat).map D.int := by
    rw [cutD_from (by rw [List.length_map]; omega), List.map_drop]
  rw [Int.toNat_of_nonneg b1] at e4
  refine ⟨ps' ++ [row.drop b'.toNat], s2, ?_, by rw [List.flatten_append, b3]; simp, k2⟩
  have p1 : frzs (pc1 ps') = pcs ps' := frz_pcs
  have p2 : pcs (ps' ++ [row.drop b'.toNat]) = pcs ps' ++ [.nd .lst false ((row.drop b'.toNat).map D.int)] := by unfold pcs; rw [List.map_append]; rfl
  have p4 : frzs (pcs ps') = pcs ps' := by rw [← p1, frzs_id]
  have p3 : (pcs ps').length + 1 ≤ 16000000 := by unfold pcs; rw [List.length_map]; omega
  rw [p2]
  generalize row.drop b'.toNat = ns at e4 ⊢
  have p0 : pc1 [] = [] := rfl
  rw [p0] at e3
  unfold F_law_cuttings B_law_cuttings
  have sd : sortedD [.nd .lst false (xs.map D.int)] = some (.nd .lst true ((sortI xs).map D.int)) := by simp [sortedD, D.seq]
  simp [fDef_ap, e1, hr, e2, sd, e3, e4, p1, p3, p4, outs, lim, -rngA1_ok]
def fresh : Fm := ⟨[], true, false, 0⟩
theorem fresh_gd : Gd fresh := ⟨fun _ => rfl, by decide, fun _ => by decide⟩
def RW (row : List Int) (evs : List D) (ws : List Int) : Prop := (run fresh row).2 = (evs, ws)
theorem RW.app {row xs ws ws' : List Int} {evs evs' : List D} (h : RW row evs ws) (k : TH xs evs' ws') : RW (row ++ xs) (evs ++ evs') (ws ++ ws') := by
  unfold RW at *
  rw [run_app, h]
  dsimp only
  rw [k]
theorem RW.len {row ws : List Int} {evs : List D} (h : RW row evs ws) : ws.length = row.length := by
  have h2 := run_pend (xs := row) (s := fresh)
  rw [show (run fresh row).2 = (evs, ws) from h] at h2; exact h2
def okE (evs : List D) : Prop := Fz evs ∧ ∀ e ∈ evs, okS 7 e = true
theorem okS_int {n : Nat} {i : Int} (h : i.natAbs < 1152921504606846976) : okS (n + 1) (.int i) = true := by
  unfold okS; exact decide_eq_true (log_small h)
theorem okS_ints {n : Nat} {o : Bool} {ms : List Int} (h : ∀ m ∈ ms, Byt m) (hl : ms.length ≤ 100000) : okS (n + 2) (.nd .lst o (ms.map D.int)) = true := by
  unfold okS
  simp only [List.length_map, Bool.and_eq_true, decide_eq_true_eq, List.all_eq_true]
  exact ⟨by omega, fun x hx => by
    obtain ⟨m, hm, rfl⟩ := List.mem_map.mp hx
    have := h m hm
    exact okS_int (by unfold Byt at this; omega)⟩
theorem okS_ev {ses head : Int} {ms : List Int} (hs : Byt ses) (hh : Byt head) (hm : ∀ x ∈ ms, Byt x) (hl : ms.length ≤ 120) : okS 7 (evD ses head ms) = true := by
  have h1 := okS_ints (n := 4) (o := false) hm (by omega)
  have h2 : okS 6 (.int ses) = true := okS_int (by unfold Byt at hs; omega)
  have h3 : okS 6 (.int head) = true := okS_int (by unfold Byt at hh; omega)
  unfold evD
  unfold okS
  simp [h1, h2, h3]
theorem evD_fz {ses head : Int} {ms : List Int} : frz (evD ses head ms) = evD ses head ms := by unfold evD; simp
theorem same_evs {evs : List D} {o o' : Bool} (h : okE evs) (hl : evs.length ≤ 1000) : F_law_same 8 [.nd .lst o evs, .nd .lst o' evs] = .ok (.bl true) [none, none] := by
  refine same_ok 8 _ _ (by simp) ?_
  unfold okS
  simp only [Bool.and_eq_true, decide_eq_true_eq, List.all_eq_true]
  exact ⟨by omega, h.2⟩
theorem same_int {i : Int} (h : i.natAbs < 1152921504606846976) : F_law_same 8 [.int i, .int i] = .ok (.bl true) [none, none] := same_ok 8 _ _ rfl (okS_int h)
theorem new_ok {e : En} : eNew "Framer" 0 F_Framer___init__ aNil e = .ok fresh.d e := by
  unfold fresh
  simp [init_ok]
/-- the things in a row -/
theorem rows_loop {a0 : Option D} {many : Int} (h0 : 0 < many) (h1 : many ≤ 7) {s : D} {row ws : List Int} (hs : Stk 2000 s) (hr : RW row [] ws) (hl : row.length ≤ 10) : ∃ e', forL (gN 6) (fSeq (fAsg (gT 3 (gsCons (gN 13) (gsCons (gN 11) (gsCons (gN 14) gsNil)))) (eCall 1 F_law_thing (aIo 1 aNil))) (fSeq (fAsg (gN 3) (eBin addD (eN 3) (eN 13))) (fSeq (fAsg (gN 4) (eBin addD (eN 4) (eN 14))) (fIf (tTst (eBin isntD (eN 11) (eC .non))) (fExpr (eAppN 5 (eN 11))) fNext))))
      (rngD 0 many.toNat) ⟨[a0, some s, some (.int many), some (.nd .lst false (row.map D.int)), some (.nd .lst true (ws.map D.int)), some (.nd .lst true []), none, none, none, none, none, none, none, none, none, none, none, none], none⟩ = .nx e' ∧
      ∃ s row ws evs o3 o4 x6 x11 x13 x14, e' = ⟨[a0, some s, some (.int many), some (.nd .lst o3 (row.map D.int)), some (.nd .lst o4 (ws.map D.int)), some (.nd .lst true evs), x6, none, none, none, none, x11, none, x13, x14, none, none, none], none⟩ ∧ Stk 1000 s ∧ RW row evs ws ∧ row.length ≤ 1000 ∧ evs.length ≤ 10 ∧ okE evs := by
  obtain ⟨e', h, s', row', ws', evs', o3, o4, x6, x11, x13, x14, rfl, k1, k2, k3, k4, k5⟩ := forL_ix (g := gN 6) (b := (fSeq (fAsg (gT 3 (gsCons (gN 13) (gsCons (gN 11) (gsCons (gN 14) gsNil)))) (eCall 1 F_law_thing (aIo 1 aNil))) (fSeq (fAsg (gN 3) (eBin addD (eN 3) (eN 13))) (fSeq (fAsg (gN 4) (eBin addD (eN 4) (eN 14))) (fIf (tTst (eBin isntD (eN 11) (eC .non))) (fExpr (eAppN 5 (eN 11))) fNext)))))
    (xs := rngD 0 many.toNat) (e := ⟨[a0, some s, some (.int many), some (.nd .lst false (row.map D.int)), some (.nd .lst true (ws.map D.int)), some (.nd .lst true []), none, none, none, none, none, none, none, none, none, none, none, none], none⟩) (j := 0)
    (I := fun j e => ∃ s row ws evs o3 o4 x6 x11 x13 x14, e = ⟨[a0, some s, some (.int many), some (.nd .lst o3 (row.map D.int)), some (.nd .lst o4 (ws.map D.int)), some (.nd .lst true evs), x6, none, none, none, none, x11, none, x13, x14, none, none, none], none⟩ ∧ Stk (2000 - 40 * j) s ∧ RW row evs ws ∧ row.length ≤ 10 + 40 * j ∧ evs.length ≤ j ∧ okE evs)
    ⟨s, row, ws, [], false, true, none, none, none, none, rfl, hs, hr, hl, Nat.le_refl _, rfl, by simp⟩ fun i x hx e he => by
      obtain ⟨s, row, ws, evs, o3, o4, x6, x11, x13, x14, rfl, hs, hr, hl, he, hE⟩ := he
      obtain ⟨hi, rfl⟩ := rngD_at hx
      obtain ⟨xs, told, evs', ws', s', e1, k1, th, xl, hc⟩ := thing_ok (n := 2000 - 40 * (0 + i + 1)) (s := s) (hs.le (by omega))
      have wl := hr.len
      have wl' := th.len
      have n1 : row.length + xs.length ≤ 16000000 := by omega
      have n2 : ws.length + ws'.length ≤ 16000000 := by omega
      have n3 : evs.length < 16000000 := by omega
      have hr2 := hr.app th
      rcases hc with ⟨rfl, rfl⟩ | ⟨ses, head, ms, rfl, rfl, b1, b2, b3, b4⟩
      · refine ⟨_, _, by simp; rfl, by simp [e1, n1, n2, lim, isntD, isD, isNonD]; rfl, s', row ++ xs, ws ++ ws', evs, true, true, _, _, _, _, by rw [List.map_append, List.map_append], k1, by simpa using hr2, by rw [List.length_append]; omega, by omega, hE⟩
      · have hnd : isntD (evD ses head ms) .non = some (.bl true) := by unfold evD; simp [isntD, isD, isNonD]
        refine ⟨_, _, by simp; rfl, by simp [e1, n1, n2, n3, lim, evD_fz, hnd]; rfl, s', row ++ xs, ws ++ ws', evs ++ [evD ses head ms], true, true, _, _, _, _, by rw [List.map_append, List.map_append], k1, hr2, by rw [List.length_append]; omega, by rw [List.length_append]; simp; omega, hE.1.app (by unfold Fz; simp [evD_fz]), fun e hm => ?_⟩
        rcases List.mem_append.mp hm with hm | hm
        · exact hE.2 e hm
        · rw [List.mem_singleton] at hm; subst hm; exact okS_ev b1 b2 b3 (by omega)
  rw [rngD_length] at k1 k3 k4
  exact ⟨_, h, s', row', ws', evs', o3, o4, x6, x11, x13, x14, rfl, k1.le (by omega), k2, by omega, by omega, k5⟩
theorem RW.split {row ws : List Int} {evs : List D} (h : RW row evs ws) (k : Nat) : (run fresh ([row.take k, row.drop k] : List (List Int)).flatten).2 = (evs, ws) := by
  simp only [List.flatten_cons, List.flatten_nil, List.append_nil, List.take_append_drop]
  exact h
theorem RW.m {row ws : List Int} {evs : List D} (h : RW row evs ws) : (run fresh row).1.m = ws.getLastD 0 := by
  rw [run_m, show (run fresh row).2 = (evs, ws) from h]
  rfl
theorem run_ms : ∀ {xs : List Int} {s : Fm}, ∀ p ∈ (run s xs).2.2, p.natAbs ≤ s.m.natAbs + xs.length
  | [], s, p, hp => by cases hp
  | x :: xs, s, p, hp => by
    have h1 : (stpF s x).1.m.natAbs ≤ s.m.natAbs + 1 := by
      have : ∀ b m, (tl b m).1.m.natAbs ≤ m.natAbs := fun b m => by unfold tl; split <;> (try split) <;> simp
      unfold stpF
      have h2 : (stp s x).1.m.natAbs ≤ s.m.natAbs + 1 := by
        unfold stp
        split
        · simp
        split
        · dsimp only; omega
        split
        · simp
        split
        · dsimp only; omega
        dsimp only
        generalize s.b ++ _ = b'
        split
        · simp
        split
        · dsimp only; omega
        · simp
      split <;> exact h2
    rw [run_cons] at hp
    rw [List.length_cons]
    rcases List.mem_cons.mp hp with rfl | hp
    · omega
    · have := run_ms p hp; omega
theorem RW.small {row ws : List Int} {evs : List D} (h : RW row evs ws) (hl : row.length ≤ 1000) : ∀ p ∈ ws, p.natAbs < 1152921504606846976 := fun p hp => by
  have := run_ms (xs := row) (s := fresh) p (by rw [show (run fresh row).2 = (evs, ws) from h]; exact hp)
  have h0 : fresh.m.natAbs = 0 := rfl
  omega
theorem getLastD_mem {ws : List Int} {d : Int} : ws.getLastD d ∈ d :: ws := by
  cases ws with
  | nil => simp
  | cons a t =>
    rw [List.getLastD_eq_getLast?, List.getLast?_eq_some_getLast (by simp : a :: t ≠ []), Option.getD_some]
    exact List.mem_cons_of_mem _ (List.getLast_mem _)
theorem RW.lastS {row ws : List Int} {evs : List D} (h : RW row evs ws) (hl : row.length ≤ 1000) : (ws.getLastD 0).natAbs < 1152921504606846976 := by
  rcases List.mem_cons.mp (getLastD_mem (ws := ws) (d := 0)) with e | e
  · rw [e]; decide
  · exact h.small hl _ e
/-- every cut -/
theorem cuts_loop {a0 a1 a2 a4 a6 a11 a13 a14 : Option D} {row ws : List Int} {evs : List D} {o3 : Bool} (hr : RW row evs ws) (hl : row.length ≤ 1000) (he : evs.length ≤ 10) (hE : okE evs) : ∃ e', forL (gN 8) (fSeq (fAsg (gN 15) (eNew "Framer" 0 F_Framer___init__ aNil)) (fSeq (fAsg (gN 16) (eCall 2 F_law_fed (aIo 15 (aCons (eLst (aCons (eSl (eN 3) none (some (eN 8))) (aCons (eSl (eN 3) (some (eN 8)) none) aNil))) aNil)))) (fIf (tOr (tNt (tTst (eCall 2 (F_law_same 8) (aCons (eN 16) (aCons (eN 5) aNil))))) (tNt (tTst (eCall 2 (F_law_same 8) (aCons (eMeth "Framer" "pending" 1 15 F_Framer_pending aNil) (aCons (eN 7) aNil)))))) (fRet (eC (.bl false))) fNext)))
      (rngD 0 (row.length + 1)) ⟨[a0, a1, a2, some (.nd .lst o3 (row.map D.int)), a4, some (.nd .lst true evs), a6, some (.int (ws.getLastD 0)), none, none, none, a11, none, a13, a14, none, none, none], none⟩ = .nx e' ∧
      ∃ o3 o5 x8 x15 x16, e' = ⟨[a0, a1, a2, some (.nd .lst o3 (row.map D.int)), a4, some (.nd .lst o5 evs), a6, some (.int (ws.getLastD 0)), x8, none, none, a11, none, a13, a14, x15, x16, none], none⟩ :=
  forL_inv (I := fun e => ∃ o3 o5 x8 x15 x16, e = ⟨[a0, a1, a2, some (.nd .lst o3 (row.map D.int)), a4, some (.nd .lst o5 evs), a6, some (.int (ws.getLastD 0)), x8, none, none, a11, none, a13, a14, x15, x16, none], none⟩) ⟨o3, true, none, none, none, rfl⟩ fun x hx e hI => by
    obtain ⟨o3, o5, x8, x15, x16, rfl⟩ := hI
    obtain ⟨i, hi, rfl⟩ := rngD_mem hx
    have c1 : cutD (row.map D.int) none (some ((i : Nat) : Int)) = (row.take i).map D.int := by
      rw [cutD_upto (by rw [List.length_map]; omega), List.map_take]
    have c2 : cutD (row.map D.int) (some ((i : Nat) : Int)) none = (row.drop i).map D.int := by
      rw [cutD_from (by rw [List.length_map]; omega), List.map_drop]
    have hf := fed_ok (ps := [row.take i, row.drop i]) (s := fresh) (o := true) (o' := true) fresh_gd (by simp; omega)
    have hs := hr.split i
    have hm : (run fresh ([row.take i, row.drop i] : List (List Int)).flatten).1.m = ws.getLastD 0 := by
      simp only [List.flatten_cons, List.flatten_nil, List.append_nil, List.take_append_drop]
      exact hr.m
    rw [hs] at hf
    simp only [List.map_cons, List.map_nil] at hf
    generalize hst : (run fresh ([row.take i, row.drop i] : List (List Int)).flatten).1 = st at hf hm
    generalize row.take i = r1 at c1 hf
    generalize row.drop i = r2 at c2 hf
    have hp := pending_ok st
    rw [hm] at hp
    have s1 := same_evs (evs := evs) (o := false) (o' := false) hE (by omega)
    have s2 := same_int (i := ws.getLastD 0) (hr.lastS hl)
    have z : frzs evs = evs := hE.1
    generalize ws.getLastD 0 = lst at hp s2 ⊢
    exact ⟨_, _, by simp; rfl, by simp [-eNew_ap, new_ok, c1, c2, hf, hp, s1, s2, lim, z]; and_intros <;> rfl, false, false, _, _, _, rfl⟩
theorem run_at : ∀ {xs : List Int} {s : Fm} {k : Nat} {x : Int}, xs[k]? = some x → (run s xs).2.2[k]? = some (stpF (run s (xs.take k)).1 x).1.m
  | [], s, k, x, h => by simp at h
  | y :: xs, s, 0, x, h => by
    simp at h; subst h
    rfl
  | y :: xs, s, k + 1, x, h => by
    rw [List.take_succ_cons, run_cons, run_cons]
    dsimp only
    rw [List.getElem?_cons_succ]
    exact run_at (by simpa using h)
/-- octet by octet -/
theorem single_loop {a0 a1 a2 a5 a7 a8 a10 a13 a14 a15 x6 x16 : Option D} {row ws : List Int} {evs : List D} {o3 o4 : Bool} (hr : RW row evs ws) (hl : row.length ≤ 1000) : ∃ e', forL (gN 6) (fSeq (fAsg (gN 16) (eMeth "Framer" "feed" 2 9 F_Framer_feed (aCons (eLst (aCons (eIxN 3 (eN 6)) aNil)) aNil))) (fSeq (fIf (tOr (tNt (tTst (eCallB isiD (aIo 16 (aCons (eC (.ty "list")) aNil))))) (tNt (tTst (eCall 2 (F_law_same 8) (aCons (eMeth "Framer" "pending" 1 9 F_Framer_pending aNil) (aCons (eIxN 4 (eN 6)) aNil)))))) (fRet (eC (.bl false))) fNext) (fAsg (gN 11) (eBin addD (eN 11) (eN 16)))))
      (rngD 0 row.length) ⟨[a0, a1, a2, some (.nd .lst o3 (row.map D.int)), some (.nd .lst o4 (ws.map D.int)), a5, x6, a7, a8, some fresh.d, a10, some (.nd .lst true []), none, a13, a14, a15, x16, none], none⟩ = .nx e' ∧
      ∃ o3 o4 s9 x6 x16, e' = ⟨[a0, a1, a2, some (.nd .lst o3 (row.map D.int)), some (.nd .lst o4 (ws.map D.int)), a5, x6, a7, a8, s9, a10, some (.nd .lst true evs), none, a13, a14, a15, x16, none], none⟩ := by
  obtain ⟨e', h, o3', o4', x6', x16', rfl⟩ := forL_ix (g := gN 6) (b := (fSeq (fAsg (gN 16) (eMeth "Framer" "feed" 2 9 F_Framer_feed (aCons (eLst (aCons (eIxN 3 (eN 6)) aNil)) aNil))) (fSeq (fIf (tOr (tNt (tTst (eCallB isiD (aIo 16 (aCons (eC (.ty "list")) aNil))))) (tNt (tTst (eCall 2 (F_law_same 8) (aCons (eMeth "Framer" "pending" 1 9 F_Framer_pending aNil) (aCons (eIxN 4 (eN 6)) aNil)))))) (fRet (eC (.bl false))) fNext) (fAsg (gN 11) (eBin addD (eN 11) (eN 16))))))
    (xs := rngD 0 row.length) (e := ⟨[a0, a1, a2, some (.nd .lst o3 (row.map D.int)), some (.nd .lst o4 (ws.map D.int)), a5, x6, a7, a8, some fresh.d, a10, some (.nd .lst true []), none, a13, a14, a15, x16, none], none⟩) (j := 0)
    (I := fun j e => ∃ o3 o4 x6 x16, e = ⟨[a0, a1, a2, some (.nd .lst o3 (row.map D.int)), some (.nd .lst o4 (ws.map D.int)), a5, x6, a7, a8, some (run fresh (row.take j)).1.d, a10, some (.nd .lst true (run fresh (row.take j)).2.1), none, a13, a14, a15, x16, none], none⟩)
    ⟨o3, o4, x6, x16, rfl⟩ fun i x hx e he => by
      obtain ⟨o3, o4, x6, x16, rfl⟩ := he
      obtain ⟨hi, rfl⟩ := rngD_at hx
      have w := hr.len
      obtain ⟨y, hy⟩ : ∃ y, row[i]? = some y := ⟨_, List.getElem?_eq_getElem hi⟩
      have hw := run_at (s := fresh) hy
      rw [show (run fresh row).2 = (evs, ws) from hr] at hw
      dsimp only at hw
      have hws := hr.small hl _ (List.mem_of_getElem? hw)
      have ht : row.take (i + 1) = row.take i ++ [y] := by rw [List.take_add_one, hy]; rfl
      have e1 := run_app (xs := row.take i) (ys := [y]) (s := fresh)
      rw [← ht] at e1
      have e2 : ∀ s : Fm, run s [y] = ((stpF s y).1, (stpF s y).2, [(stpF s y).1.m]) := fun s => by rw [run_cons]; simp [Lw.run]
      have g0 : Gd (run fresh (row.take i)).1 := run_gd fresh_gd
      have hf := feed_ok (s := (run fresh (row.take i)).1) (xs := [y]) (o := true) g0 (by simp)
      rw [Nat.zero_add, e1]
      dsimp only
      have z1 : frzs (run fresh (row.take i)).2.1 = (run fresh (row.take i)).2.1 := run_fz
      have z2 : frzs (run (run fresh (row.take i)).1 [y]).2.1 = (run (run fresh (row.take i)).1 [y]).2.1 := run_fz
      have l1 := run_evs (xs := row.take i) (s := fresh)
      have l2 := run_evs (xs := [y]) (s := (run fresh (row.take i)).1)
      rw [List.length_take] at l1
      rw [List.length_cons, List.length_nil] at l2
      have n1 : (run fresh (row.take i)).2.1.length + (run (run fresh (row.take i)).1 [y]).2.1.length ≤ 16000000 := by omega
      have hm : (run (run fresh (row.take i)).1 [y]).1.m = (stpF (run fresh (row.take i)).1 y).1.m := by rw [e2]
      rw [← hm] at hw hws
      have hp := pending_ok (run (run fresh (row.take i)).1 [y]).1
      have s2 := same_int hws
      generalize run (run fresh (row.take i)).1 [y] = rr at hf hw z2 n1 hp s2 ⊢
      generalize run fresh (row.take i) = r0 at hf z1 n1 ⊢
      have i3 : ixN row.length (i : Int) = some i := ixN_nat hi
      have i4 : ixN ws.length (i : Int) = some i := ixN_nat (by omega)
      have y3 : (row.map D.int)[i]? = some (.int y) := by rw [List.getElem?_map, hy]; rfl
      have y4 : (ws.map D.int)[i]? = some (.int rr.1.m) := by rw [List.getElem?_map, hw]; rfl
      have t3 : (row.map D.int).set i (.int y) = row.map D.int := set_same y3
      have t4 : (ws.map D.int).set i (.int rr.1.m) = ws.map D.int := set_same y4
      have hf : F_Framer_feed [r0.1.d, .nd .lst true [.int y]] = .ok (.nd .lst true rr.2.1) [some rr.1.d, none] := hf
      cases o3 <;> cases o4 <;> exact ⟨_, _, by simp; rfl, by simp [-List.getElem?_map, i3, i4, y3, y4, t3, t4, hf, hp, s2, lim, n1, z1, z2, isiD, tyD, tyNs, subT]; and_intros <;> rfl, _, _, _, _, rfl⟩
  have ht : row.take (0 + (rngD 0 row.length).length) = row := by rw [Nat.zero_add, rngD_length, List.take_length]
  rw [ht, show (run fresh row).2 = (evs, ws) from hr] at h
  exact ⟨_, h, _, _, _, _, _, rfl⟩
theorem same_s : F_law_same 8 [.nd .lst true [evD 1 2 [126]], .nd .lst true [.nd .tup false [.int 1, .int 2, .nd .lst false [.int 126]]]] = .ok (.bl true) [none, none] := by
  have hz : Fz [evD 1 2 [126]] := by unfold Fz; rw [frzs_cons, evD_fz]; rfl
  have h := same_evs (evs := [evD 1 2 [126]]) (o := true) (o' := true) ⟨hz, fun e he => by
    rw [List.mem_singleton] at he; subst he
    exact okS_ev (by decide) (by decide) (by decide) (by decide)⟩ (by decide)
  exact h
theorem keeps : Keeps F_law := by
  intro ns hl _
  obtain ⟨s0, es, k0⟩ := source_ok (ns := ns) (k := 0) hl (by decide) (by decide)
  suffices main : RT (fun d => d = .bl true) (B_law ⟨[some (.nd .wl false (ns.map D.int)), none, none, none, none, none, none, none, none, none, none, none, none, none, none, none, none, none], none⟩) by
    obtain ⟨d, os, h, rfl⟩ := RT.go (N := 18) (io := []) (body := B_law) (ds := [.nd .wl false (ns.map D.int)]) main
    exact ⟨os, h⟩
  unfold B_law
  refine seq_goE ⟨⟨[some (.nd .wl false (ns.map D.int)), some s0, none, none, none, none, none, none, none, none, none, none, none, none, none, none, none, none], none⟩, by simp [es], ?_⟩
  -- many
  have hmany : ∃ (m : Int) (s1 : D), fAsg (gN 2) (eIf (tTst (eBin gtD (eCall 2 F_law_pick (aIo 1 (aCons (eC (.int 8)) aNil))) (eC (.int 0)))) (eBin addD (eC (.int 1)) (eCall 2 F_law_pick (aIo 1 (aCons (eC (.int 4)) aNil)))) (eC (.int 7))) ⟨[some (.nd .wl false (ns.map D.int)), some s0, none, none, none, none, none, none, none, none, none, none, none, none, none, none, none, none], none⟩ =
      .nx ⟨[some (.nd .wl false (ns.map D.int)), some s1, some (.int m), none, none, none, none, none, none, none, none, none, none, none, none, none, none, none], none⟩ ∧ 0 < m ∧ m ≤ 7 ∧ Stk 3000 s1 := by
    obtain ⟨r1, s1, e1, a1, c1, k1⟩ := pick_ok (n := 4000) (m := 8) (k0.le (by decide)) (by decide) (by decide)
    by_cases h : 0 < r1
    · obtain ⟨r2, s2, e2, a2, c2, k2⟩ := pick_ok (n := 3000) (m := 4) (k1.le (by decide)) (by decide) (by decide)
      exact ⟨1 + r2, s2, by simp [e1, h, e2], by omega, by omega, k2⟩
    · exact ⟨7, s1, by simp [e1, h], by omega, by omega, k1.le (by decide)⟩
  obtain ⟨m, s1, e1, m0, m7, k1⟩ := hmany
  refine seq_go _ e1 ?_
  obtain ⟨r3, s2, e2, a2, c2, k2⟩ := pick_ok (n := 2999) (m := 3) k1 (by decide) (by decide)
  have hr2 : rngA1 [.int r3] = some (rngD 0 r3.toNat) := rngA1_ok (by omega) (by omega)
  obtain ⟨row, s3, e3, xl, xb, k3⟩ := lc_pick (sl := [some (.nd .wl false (ns.map D.int)), some s2, some (.int m), none, none, none, none, none, none, none, none, none, none, none, none, none, none, none]) (ex := none) (i := 1) (j := 6) (L := r3.toNat) (n := 2000) (m := 126) rfl rfl (by decide) (by decide) (by decide) (k2.le (by omega)) (by omega)
  simp only [List.set_cons_succ, List.set_cons_zero] at e3
  refine seq_goE ⟨⟨[some (.nd .wl false (ns.map D.int)), some s3, some (.int m), some (.nd .lst true (row.map D.int)), none, none, none, none, none, none, none, none, none, none, none, none, none, none], none⟩, by simp [e2, hr2, e3, -rngA1_ok], ?_⟩
  have e4 := lc_zero (sl := [some (.nd .wl false (ns.map D.int)), some s3, some (.int m), some (.nd .lst false (row.map D.int)), none, none, none, none, none, none, none, none, none, none, none, none, none, none]) (ex := none) (j := 17) (xs := row.map D.int) rfl (by rw [List.length_map]; omega)
  rw [List.length_map] at e4
  refine seq_goE ⟨⟨[some (.nd .wl false (ns.map D.int)), some s3, some (.int m), some (.nd .lst false (row.map D.int)), some (.nd .lst true ((List.replicate row.length (0 : Int)).map D.int)), none, none, none, none, none, none, none, none, none, none, none, none, none], none⟩, by simp [-List.map_replicate, e4], ?_⟩
  refine seq_goE ⟨⟨[some (.nd .wl false (ns.map D.int)), some s3, some (.int m), some (.nd .lst false (row.map D.int)), some (.nd .lst true ((List.replicate row.length (0 : Int)).map D.int)), some (.nd .lst true []), none, none, none, none, none, none, none, none, none, none, none, none], none⟩, by simp [lim], ?_⟩
  have hr0 : RW row [] (List.replicate row.length 0) := by
    unfold RW
    rw [run_junk rfl fun x hx => by have := xb x hx; omega]
  obtain ⟨e', e5, s4, row2, ws, evs, o3, o4, x6, x11, x13, x14, rfl, k4, hr, hl2, he, hE⟩ := rows_loop (a0 := some (.nd .wl false (ns.map D.int))) m0 m7 k3 hr0 (by omega)
  have hrm : rngA1 [.int m] = some (rngD 0 m.toNat) := rngA1_ok (by omega) (by omega)
  refine seq_goE ⟨_, by simp [hrm, -rngA1_ok, e5, -List.map_replicate]; rfl, ?_⟩
  -- last
  have w := hr.len
  have hlast : fAsg (gN 7) (eIf (tTru (eN 4)) (eIxN 4 (eBin subD (eCallB lenD (aIo 4 aNil)) (eC (.int 1)))) (eC (.int 0))) ⟨[some (.nd .wl false (ns.map D.int)), some s4, some (.int m), some (.nd .lst o3 (row2.map D.int)), some (.nd .lst o4 (ws.map D.int)), some (.nd .lst true evs), x6, none, none, none, none, x11, none, x13, x14, none, none, none], none⟩ =
      .nx ⟨[some (.nd .wl false (ns.map D.int)), some s4, some (.int m), some (.nd .lst o3 (row2.map D.int)), some (.nd .lst false (ws.map D.int)), some (.nd .lst true evs), x6, some (.int (ws.getLastD 0)), none, none, none, x11, none, x13, x14, none, none, none], none⟩ := by
    cases hws : ws with
    | nil => simp
    | cons a t =>
      have hx : ixN (t.length + 1) (t.length : Int) = some t.length := ixN_nat (by omega)
      have hy : (D.int a :: t.map D.int)[t.length]? = some (.int ((a :: t).getLastD 0)) := by
        have : (a :: t)[t.length]? = some ((a :: t).getLastD 0) := by
          rw [List.getLastD_eq_getLast?, List.getLast?_eq_getElem?]
          simp
        rw [show (D.int a :: t.map D.int) = (a :: t).map D.int from rfl, List.getElem?_map, this]; rfl
      generalize (a :: t).getLastD 0 = g at hy ⊢
      have hz : ((t.length : Int) + 1 - 1) = (t.length : Int) := by omega
      have hy2 : ∀ h, (D.int a :: t.map D.int)[t.length]'h = .int g := fun h => by
        rw [List.getElem?_eq_getElem h] at hy; exact Option.some.inj hy
      simp [hx, hy2, hz]
  refine seq_go _ hlast ?_
  have hrc : rngA1 [.int ((row2.length : Int) + 1)] = some (rngD 0 (row2.length + 1)) := by
    rw [rngA1_ok (by omega) (by omega)]; congr 2
  obtain ⟨e', e6, o3', o5, x8, x15, x16, rfl⟩ := cuts_loop (a0 := some (.nd .wl false (ns.map D.int))) (a1 := some s4) (a2 := some (.int m)) (a4 := some (.nd .lst false (ws.map D.int))) (a6 := x6) (a11 := x11) (a13 := x13) (a14 := x14) (o3 := o3) hr hl2 he hE
  have hm0 := hr.m
  have q5 := same_int (hr.lastS hl2)
  generalize ws.getLastD 0 = lst at e6 hm0 q5 ⊢
  refine seq_goE ⟨_, by simp [hrc, -rngA1_ok, e6]; rfl, ?_⟩
  refine seq_goE ⟨_, by simp [-eNew_ap, new_ok]; rfl, ?_⟩
  refine seq_goE ⟨_, by simp [-eNew_ap, new_ok]; rfl, ?_⟩
  refine seq_goE ⟨_, by simp [lim]; rfl, ?_⟩
  have hrl : rngA1 [.int (row2.length : Int)] = some (rngD 0 row2.length) := by
    rw [rngA1_ok (by omega) (by omega)]; congr 2
  obtain ⟨e', e7, o3'', o4', s9, x6', x16', rfl⟩ := single_loop (a0 := some (.nd .wl false (ns.map D.int))) (a1 := some s4) (a2 := some (.int m)) (a5 := some (.nd .lst o5 evs)) (a7 := some (.int lst)) (a8 := x8) (a10 := some fresh.d) (a13 := x13) (a14 := x14) (a15 := x15) (x6 := x6) (x16 := x16) (o3 := o3') (o4 := false) hr hl2
  refine seq_goE ⟨_, by simp [hrl, -rngA1_ok, e7]; rfl, ?_⟩
  have z : frzs evs = evs := hE.1
  have q1 := same_evs (evs := evs) (o := false) (o' := false) hE (by omega)
  have q2 := pending_ok fresh
  have q3 : F_law_same 8 [.int 0, .int 0] = .ok (.bl true) [none, none] := same_int (by decide)
  have f0 : fresh.m = 0 := rfl
  rw [f0] at q2
  refine seq_goE ⟨_, by simp [q1, q2, q3, z]; rfl, ?_⟩
  obtain ⟨ps, s5, e8, hps, k5⟩ := cuttings_ok (n := 10) (s := s4) (row := row2) (k4.le (by decide)) (by omega)
  refine seq_goE ⟨_, by simp [e8]; rfl, ?_⟩
  have hfed := fed_ok (ps := ps) (s := fresh) (o := false) (o' := false) fresh_gd (by rw [hps]; omega)
  rw [hps, show (run fresh row2).2 = (evs, ws) from hr] at hfed
  have hfed : F_law_fed [fresh.d, .nd .lst false (pcs ps)] = .ok (.nd .lst true evs) [some (run fresh row2).1.d, none] := hfed
  have g2 : Gd (run fresh row2).1 := run_gd fresh_gd
  have q4 := pending_ok (run fresh row2).1
  rw [hm0] at q4
  have zp : frzs (pcs ps) = pcs ps := by rw [← frz_pcs (o := true), frzs_id]
  generalize (run fresh row2).1 = st at hfed q4 g2
  have q1t := same_evs (evs := evs) (o := true) (o' := false) hE (by omega)
  refine seq_goE ⟨_, by simp [hfed, q1, q1t, q4, q5, z, zp]; rfl, ?_⟩
  -- the last frame
  have hfr := frame_ok (ses := 1) (head := 2) (ms := [126]) (o := true) (by decide)
  obtain ⟨b, bw, hrun, _⟩ := run_frm (s0 := st) (ses := 1) (head := 2) (ms := [126]) (by decide) (by decide) (by decide) (by decide)
  have hfeed := feed_ok (s := st) (xs := frm 1 2 [126]) (o := true) g2 (by have := (frm_len (ses := 1) (head := 2) (ms := [126])).1; simp at this; omega)
  rw [hrun] at hfeed
  have hfeed : F_Framer_feed [st.d, .nd .lst true ((frm 1 2 [126]).map D.int)] = .ok (.nd .lst true [evD 1 2 [126]]) [some (Fm.d ⟨b, false, bw, 0⟩), none] := hfeed
  have q6 := pending_ok ⟨b, false, bw, 0⟩
  have hfr : F_law_frame [.int 1, .int 2, .nd .lst true [.int 126]] = .ok (.nd .lst true ((frm 1 2 [126]).map D.int)) [none, none, none] := hfr
  generalize (frm 1 2 [126]).map D.int = fm at hfr hfeed
  have hss := same_s
  have hz := evD_fz (ses := 1) (head := 2) (ms := [126])
  generalize hev : evD 1 2 [126] = ev at hfeed hss hz
  exact ⟨_, _, by simp [hfr, hfeed, hss, hz, q6, eqD_int, lim]; rfl, rfl⟩
end K26

set_option Elab.async false
set_option linter.all false
set_option maxRecDepth 100000
set_option maxHeartbeats 4000000
/-! printed by gen.py: the end -/
namespace K26
open PySem L2 Bx Lw PyProof.Rows
theorem all_mk {P : Program} {w : World} {K : PySem.W.Frag} {h : Heap} {mg : Str → Option Value} {fa : Addr} {c_Framer f_law_source f_law_pick f_law_cuttings f_law_octet f_law_message f_law_escaped f_law_frame f_law_thing f_low_octet f_Framer_dropped f_Framer_taken f_Framer_feed f_law_fed f_law_same f_Framer___init__ f_Framer_pending f_law : Addr}
  {t_ESCAPE : Tok}
  {t_LEAST : Tok}
  {t_MARK : Tok}
  {t_MOST : Tok}
  {od_law_source an_law_source : Option Addr} {sl_law_source : Array (Option Value)} {oc_law_source kV_law_source dc_law_source pm_law_source cd_law_source ct_law_source : Value}
  {od_law_pick an_law_pick : Option Addr} {sl_law_pick : Array (Option Value)} {oc_law_pick kV_law_pick dc_law_pick pm_law_pick cd_law_pick ct_law_pick : Value}
  {od_law_cuttings an_law_cuttings : Option Addr} {sl_law_cuttings : Array (Option Value)} {oc_law_cuttings kV_law_cuttings dc_law_cuttings pm_law_cuttings cd_law_cuttings ct_law_cuttings : Value}
  {od_law_octet an_law_octet : Option Addr} {sl_law_octet : Array (Option Value)} {oc_law_octet kV_law_octet dc_law_octet pm_law_octet cd_law_octet ct_law_octet : Value}
  {od_law_message an_law_message : Option Addr} {sl_law_message : Array (Option Value)} {oc_law_message kV_law_message dc_law_message pm_law_message cd_law_message ct_law_message : Value}
  {od_law_escaped an_law_escaped : Option Addr} {sl_law_escaped : Array (Option Value)} {oc_law_escaped kV_law_escaped dc_law_escaped pm_law_escaped cd_law_escaped ct_law_escaped : Value}
  {od_law_frame an_law_frame : Option Addr} {sl_law_frame : Array (Option Value)} {oc_law_frame kV_law_frame dc_law_frame pm_law_frame cd_law_frame ct_law_frame : Value}
  {od_law_thing an_law_thing : Option Addr} {sl_law_thing : Array (Option Value)} {oc_law_thing kV_law_thing dc_law_thing pm_law_thing cd_law_thing ct_law_thing : Value}
  {od_low_octet an_low_octet : Option Addr} {sl_low_octet : Array (Option Value)} {oc_low_octet kV_low_octet dc_low_octet pm_low_octet cd_low_octet ct_low_octet : Value}
  {od_Framer_dropped an_Framer_dropped : Option Addr} {sl_Framer_dropped : Array (Option Value)} {oc_Framer_dropped kV_Framer_dropped dc_Framer_dropped pm_Framer_dropped cd_Framer_dropped ct_Framer_dropped : Value}
  {od_Framer_taken an_Framer_taken : Option Addr} {sl_Framer_taken : Array (Option Value)} {oc_Framer_taken kV_Framer_taken dc_Framer_taken pm_Framer_taken cd_Framer_taken ct_Framer_taken : Value}
  {od_Framer_feed an_Framer_feed : Option Addr} {sl_Framer_feed : Array (Option Value)} {oc_Framer_feed kV_Framer_feed dc_Framer_feed pm_Framer_feed cd_Framer_feed ct_Framer_feed : Value}
  {od_law_fed an_law_fed : Option Addr} {sl_law_fed : Array (Option Value)} {oc_law_fed kV_law_fed dc_law_fed pm_law_fed cd_law_fed ct_law_fed : Value}
  {od_law_same an_law_same : Option Addr} {sl_law_same : Array (Option Value)} {oc_law_same kV_law_same dc_law_same pm_law_same cd_law_same ct_law_same : Value}
  {od_Framer___init__ an_Framer___init__ : Option Addr} {sl_Framer___init__ : Array (Option Value)} {oc_Framer___init__ kV_Framer___init__ dc_Framer___init__ pm_Framer___init__ cd_Framer___init__ ct_Framer___init__ : Value}
  {od_Framer_pending an_Framer_pending : Option Addr} {sl_Framer_pending : Array (Option Value)} {oc_Framer_pending kV_Framer_pending dc_Framer_pending pm_Framer_pending cd_Framer_pending ct_Framer_pending : Value}
  {od_law an_law : Option Addr} {sl_law : Array (Option Value)} {oc_law kV_law dc_law pm_law cd_law ct_law : Value}
  (X : K.In h) (G : h.Ns mainGlobals mg) (hfa : mg "law" = some (.ref fa))
  (aC_Framer : PySem.W.nsIn K mainGlobals "Framer" = some (some (.ref c_Framer)))
  (pg_Framer : PySem.W.plainGet K c_Framer Str.empty = true)
  (hd_Framer : PySem.W.hasDictIn K c_Framer = true)
  (po_Framer : PySem.W.plainOver K c_Framer = true)
  (sa_Framer : PySem.W.findIn K (.ref c_Framer) "__setattr__" = some (some (.builtin "object.__setattr__")))
  (mk_Framer : PySem.W.makesIn K c_Framer = true)
  (kc_Framer : PySem.W.keepIn K (.ref c_Framer) = true)
  (na_Framer_body : PySem.W.findIn K (.ref c_Framer) "body" = some none)
  (na_Framer_many : PySem.W.findIn K (.ref c_Framer) "many" = some none)
  (na_Framer_waits : PySem.W.findIn K (.ref c_Framer) "waits" = some none)
  (j_ESCAPE : PySem.W.nsIn K mainGlobals "ESCAPE" = some (some (.int 125 t_ESCAPE)))
  (j_LEAST : PySem.W.nsIn K mainGlobals "LEAST" = some (some (.int 3 t_LEAST)))
  (j_MARK : PySem.W.nsIn K mainGlobals "MARK" = some (some (.int 126 t_MARK)))
  (j_MOST : PySem.W.nsIn K mainGlobals "MOST" = some (some (.int 123 t_MOST)))
  (a_law_source : PySem.W.nsIn K mainGlobals "_law_source" = some (some (.ref f_law_source)))
  (l_law_source : K.lookup f_law_source = some ⟨oc_law_source, od_law_source, .func (PySem.W.fnOf "_law_source" "_law_source" (defArgs st_law_source) (defBody st_law_source) (defScope st_law_source) .none kV_law_source dc_law_source pm_law_source an_law_source cd_law_source ct_law_source), sl_law_source⟩)
  (c_law_source : PySem.W.codeIn K cd_law_source "_law_source" = true)
  (k_law_source : PySem.W.keepIn K (.ref f_law_source) = true)
  (a_law_pick : PySem.W.nsIn K mainGlobals "_law_pick" = some (some (.ref f_law_pick)))
  (l_law_pick : K.lookup f_law_pick = some ⟨oc_law_pick, od_law_pick, .func (PySem.W.fnOf "_law_pick" "_law_pick" (defArgs st_law_pick) (defBody st_law_pick) (defScope st_law_pick) .none kV_law_pick dc_law_pick pm_law_pick an_law_pick cd_law_pick ct_law_pick), sl_law_pick⟩)
  (c_law_pick : PySem.W.codeIn K cd_law_pick "_law_pick" = true)
  (k_law_pick : PySem.W.keepIn K (.ref f_law_pick) = true)
  (a_law_cuttings : PySem.W.nsIn K mainGlobals "_law_cuttings" = some (some (.ref f_law_cuttings)))
  (l_law_cuttings : K.lookup f_law_cuttings = some ⟨oc_law_cuttings, od_law_cuttings, .func (PySem.W.fnOf "_law_cuttings" "_law_cuttings" (defArgs st_law_cuttings) (defBody st_law_cuttings) (defScope st_law_cuttings) .none kV_law_cuttings dc_law_cuttings pm_law_cuttings an_law_cuttings cd_law_cuttings ct_law_cuttings), sl_law_cuttings⟩)
  (c_law_cuttings : PySem.W.codeIn K cd_law_cuttings "_law_cuttings" = true)
  (k_law_cuttings : PySem.W.keepIn K (.ref f_law_cuttings) = true)
  (a_law_octet : PySem.W.nsIn K mainGlobals "_law_octet" = some (some (.ref f_law_octet)))
  (l_law_octet : K.lookup f_law_octet = some ⟨oc_law_octet, od_law_octet, .func (PySem.W.fnOf "_law_octet" "_law_octet" (defArgs st_law_octet) (defBody st_law_octet) (defScope st_law_octet) .none kV_law_octet dc_law_octet pm_law_octet an_law_octet cd_law_octet ct_law_octet), sl_law_octet⟩)
  (c_law_octet : PySem.W.codeIn K cd_law_octet "_law_octet" = true)
  (k_law_octet : PySem.W.keepIn K (.ref f_law_octet) = true)
  (a_law_message : PySem.W.nsIn K mainGlobals "_law_message" = some (some (.ref f_law_message)))
  (l_law_message : K.lookup f_law_message = some ⟨oc_law_message, od_law_message, .func (PySem.W.fnOf "_law_message" "_law_message" (defArgs st_law_message) (defBody st_law_message) (defScope st_law_message) .none kV_law_message dc_law_message pm_law_message an_law_message cd_law_message ct_law_message), sl_law_message⟩)
  (c_law_message : PySem.W.codeIn K cd_law_message "_law_message" = true)
  (k_law_message : PySem.W.keepIn K (.ref f_law_message) = true)
  (a_law_escaped : PySem.W.nsIn K mainGlobals "_law_escaped" = some (some (.ref f_law_escaped)))
  (l_law_escaped : K.lookup f_law_escaped = some ⟨oc_law_escaped, od_law_escaped, .func (PySem.W.fnOf "_law_escaped" "_law_escaped" (defArgs st_law_escaped) (defBody st_law_escaped) (defScope st_law_escaped) .none kV_law_escaped dc_law_escaped pm_law_escaped an_law_escaped cd_law_escaped ct_law_escaped), sl_law_escaped⟩)
  (c_law_escaped : PySem.W.codeIn K cd_law_escaped "_law_escaped" = true)
  (k_law_escaped : PySem.W.keepIn K (.ref f_law_escaped) = true)
  (a_law_frame : PySem.W.nsIn K mainGlobals "_law_frame" = some (some (.ref f_law_frame)))
  (l_law_frame : K.lookup f_law_frame = some ⟨oc_law_frame, od_law_frame, .func (PySem.W.fnOf "_law_frame" "_law_frame" (defArgs st_law_frame) (defBody st_law_frame) (defScope st_law_frame) .none kV_law_frame dc_law_frame pm_law_frame an_law_frame cd_law_frame ct_law_frame), sl_law_frame⟩)
  (c_law_frame : PySem.W.codeIn K cd_law_frame "_law_frame" = true)
  (k_law_frame : PySem.W.keepIn K (.ref f_law_frame) = true)
  (a_law_thing : PySem.W.nsIn K mainGlobals "_law_thing" = some (some (.ref f_law_thing)))
  (l_law_thing : K.lookup f_law_thing = some ⟨oc_law_thing, od_law_thing, .func (PySem.W.fnOf "_law_thing" "_law_thing" (defArgs st_law_thing) (defBody st_law_thing) (defScope st_law_thing) .none kV_law_thing dc_law_thing pm_law_thing an_law_thing cd_law_thing ct_law_thing), sl_law_thing⟩)
  (c_law_thing : PySem.W.codeIn K cd_law_thing "_law_thing" = true)
  (k_law_thing : PySem.W.keepIn K (.ref f_law_thing) = true)
  (a_low_octet : PySem.W.nsIn K mainGlobals "low_octet" = some (some (.ref f_low_octet)))
  (l_low_octet : K.lookup f_low_octet = some ⟨oc_low_octet, od_low_octet, .func (PySem.W.fnOf "low_octet" "low_octet" (defArgs st_low_octet) (defBody st_low_octet) (defScope st_low_octet) .none kV_low_octet dc_low_octet pm_low_octet an_low_octet cd_low_octet ct_low_octet), sl_low_octet⟩)
  (c_low_octet : PySem.W.codeIn K cd_low_octet "low_octet" = true)
  (k_low_octet : PySem.W.keepIn K (.ref f_low_octet) = true)
  (a_Framer_dropped : PySem.W.findIn K (.ref c_Framer) "dropped" = some (some (.ref f_Framer_dropped)))
  (i_Framer_dropped : PySem.W.isFn K (.ref f_Framer_dropped) = true)
  (l_Framer_dropped : K.lookup f_Framer_dropped = some ⟨oc_Framer_dropped, od_Framer_dropped, .func (PySem.W.fnOf "dropped" "Framer.dropped" (defArgs st_Framer_dropped) (defBody st_Framer_dropped) (defScope st_Framer_dropped) .none kV_Framer_dropped dc_Framer_dropped pm_Framer_dropped an_Framer_dropped cd_Framer_dropped ct_Framer_dropped), sl_Framer_dropped⟩)
  (c_Framer_dropped : PySem.W.codeIn K cd_Framer_dropped "Framer.dropped" = true)
  (k_Framer_dropped : PySem.W.keepIn K (.ref f_Framer_dropped) = true)
  (a_Framer_taken : PySem.W.findIn K (.ref c_Framer) "taken" = some (some (.ref f_Framer_taken)))
  (i_Framer_taken : PySem.W.isFn K (.ref f_Framer_taken) = true)
  (l_Framer_taken : K.lookup f_Framer_taken = some ⟨oc_Framer_taken, od_Framer_taken, .func (PySem.W.fnOf "taken" "Framer.taken" (defArgs st_Framer_taken) (defBody st_Framer_taken) (defScope st_Framer_taken) .none kV_Framer_taken dc_Framer_taken pm_Framer_taken an_Framer_taken cd_Framer_taken ct_Framer_taken), sl_Framer_taken⟩)
  (c_Framer_taken : PySem.W.codeIn K cd_Framer_taken "Framer.taken" = true)
  (k_Framer_taken : PySem.W.keepIn K (.ref f_Framer_taken) = true)
  (a_Framer_feed : PySem.W.findIn K (.ref c_Framer) "feed" = some (some (.ref f_Framer_feed)))
  (i_Framer_feed : PySem.W.isFn K (.ref f_Framer_feed) = true)
  (l_Framer_feed : K.lookup f_Framer_feed = some ⟨oc_Framer_feed, od_Framer_feed, .func (PySem.W.fnOf "feed" "Framer.feed" (defArgs st_Framer_feed) (defBody st_Framer_feed) (defScope st_Framer_feed) .none kV_Framer_feed dc_Framer_feed pm_Framer_feed an_Framer_feed cd_Framer_feed ct_Framer_feed), sl_Framer_feed⟩)
  (c_Framer_feed : PySem.W.codeIn K cd_Framer_feed "Framer.feed" = true)
  (k_Framer_feed : PySem.W.keepIn K (.ref f_Framer_feed) = true)
  (a_law_fed : PySem.W.nsIn K mainGlobals "_law_fed" = some (some (.ref f_law_fed)))
  (l_law_fed : K.lookup f_law_fed = some ⟨oc_law_fed, od_law_fed, .func (PySem.W.fnOf "_law_fed" "_law_fed" (defArgs st_law_fed) (defBody st_law_fed) (defScope st_law_fed) .none kV_law_fed dc_law_fed pm_law_fed an_law_fed cd_law_fed ct_law_fed), sl_law_fed⟩)
  (c_law_fed : PySem.W.codeIn K cd_law_fed "_law_fed" = true)
  (k_law_fed : PySem.W.keepIn K (.ref f_law_fed) = true)
  (a_law_same : PySem.W.nsIn K mainGlobals "_law_same" = some (some (.ref f_law_same)))
  (l_law_same : K.lookup f_law_same = some ⟨oc_law_same, od_law_same, .func (PySem.W.fnOf "_law_same" "_law_same" (defArgs st_law_same) (defBody st_law_same) (defScope st_law_same) .none kV_law_same dc_law_same pm_law_same an_law_same cd_law_same ct_law_same), sl_law_same⟩)
  (c_law_same : PySem.W.codeIn K cd_law_same "_law_same" = true)
  (k_law_same : PySem.W.keepIn K (.ref f_law_same) = true)
  (a_Framer___init__ : PySem.W.findIn K (.ref c_Framer) "__init__" = some (some (.ref f_Framer___init__)))
  (i_Framer___init__ : PySem.W.isFn K (.ref f_Framer___init__) = true)
  (l_Framer___init__ : K.lookup f_Framer___init__ = some ⟨oc_Framer___init__, od_Framer___init__, .func (PySem.W.fnOf "__init__" "Framer.__init__" (defArgs st_Framer___init__) (defBody st_Framer___init__) (defScope st_Framer___init__) .none kV_Framer___init__ dc_Framer___init__ pm_Framer___init__ an_Framer___init__ cd_Framer___init__ ct_Framer___init__), sl_Framer___init__⟩)
  (c_Framer___init__ : PySem.W.codeIn K cd_Framer___init__ "Framer.__init__" = true)
  (k_Framer___init__ : PySem.W.keepIn K (.ref f_Framer___init__) = true)
  (a_Framer_pending : PySem.W.findIn K (.ref c_Framer) "pending" = some (some (.ref f_Framer_pending)))
  (i_Framer_pending : PySem.W.isFn K (.ref f_Framer_pending) = true)
  (l_Framer_pending : K.lookup f_Framer_pending = some ⟨oc_Framer_pending, od_Framer_pending, .func (PySem.W.fnOf "pending" "Framer.pending" (defArgs st_Framer_pending) (defBody st_Framer_pending) (defScope st_Framer_pending) .none kV_Framer_pending dc_Framer_pending pm_Framer_pending an_Framer_pending cd_Framer_pending ct_Framer_pending), sl_Framer_pending⟩)
  (c_Framer_pending : PySem.W.codeIn K cd_Framer_pending "Framer.pending" = true)
  (k_Framer_pending : PySem.W.keepIn K (.ref f_Framer_pending) = true)
  (a_law : PySem.W.nsIn K mainGlobals "law" = some (some (.ref f_law)))
  (l_law : K.lookup f_law = some ⟨oc_law, od_law, .func (PySem.W.fnOf "law" "law" (defArgs st_law) (defBody st_law) (defScope st_law) .none kV_law dc_law pm_law an_law cd_law ct_law), sl_law⟩)
  (c_law : PySem.W.codeIn K cd_law "law" = true)
  (k_law : PySem.W.keepIn K (.ref f_law) = true)
  (z_abs : PySem.W.nsIn K mainGlobals "abs" = some none)
  (z_all : PySem.W.nsIn K mainGlobals "all" = some none)
  (z_dict : PySem.W.nsIn K mainGlobals "dict" = some none)
  (z_int : PySem.W.nsIn K mainGlobals "int" = some none)
  (z_isinstance : PySem.W.nsIn K mainGlobals "isinstance" = some none)
  (z_len : PySem.W.nsIn K mainGlobals "len" = some none)
  (z_list : PySem.W.nsIn K mainGlobals "list" = some none)
  (z_range : PySem.W.nsIn K mainGlobals "range" = some none)
  (z_repr : PySem.W.nsIn K mainGlobals "repr" = some none)
  (z_sorted : PySem.W.nsIn K mainGlobals "sorted" = some none)
  (z_str : PySem.W.nsIn K mainGlobals "str" = some none)
  (z_sum : PySem.W.nsIn K mainGlobals "sum" = some none)
  (z_tuple : PySem.W.nsIn K mainGlobals "tuple" = some none) :
  ∃ fd : FuncData, (∀ (s : Shared) (v : Value), BindsTo s fd ⟨[v], []⟩ [("script", v)]) ∧ ∀ base : Heap, K.In base → base.Ns mainGlobals mg → FnOk P w K mg base (L2.CX P w) 10 fa fd ["script"] (spLaw K) := by
  have e := hfa.symm.trans (PySem.W.mg_of X G a_law)
  cases e
  have F_law_source := fun_mk (st := st_law_source) l_law_source c_law_source k_law_source
  have B_law_source := F_law_source.binds (ps := ["script", "at"]) fun _ _ _ _ _ _ us hl => match us, hl with | [_, _], _ => rfl
  have F_law_pick := fun_mk (st := st_law_pick) l_law_pick c_law_pick k_law_pick
  have B_law_pick := F_law_pick.binds (ps := ["source", "many"]) fun _ _ _ _ _ _ us hl => match us, hl with | [_, _], _ => rfl
  have F_law_cuttings := fun_mk (st := st_law_cuttings) l_law_cuttings c_law_cuttings k_law_cuttings
  have B_law_cuttings := F_law_cuttings.binds (ps := ["source", "row", "most"]) fun _ _ _ _ _ _ us hl => match us, hl with | [_, _, _], _ => rfl
  have F_law_octet := fun_mk (st := st_law_octet) l_law_octet c_law_octet k_law_octet
  have B_law_octet := F_law_octet.binds (ps := ["source"]) fun _ _ _ _ _ _ us hl => match us, hl with | [_], _ => rfl
  have F_law_message := fun_mk (st := st_law_message) l_law_message c_law_message k_law_message
  have B_law_message := F_law_message.binds (ps := ["source", "most"]) fun _ _ _ _ _ _ us hl => match us, hl with | [_, _], _ => rfl
  have F_law_escaped := fun_mk (st := st_law_escaped) l_law_escaped c_law_escaped k_law_escaped
  have B_law_escaped := F_law_escaped.binds (ps := ["body"]) fun _ _ _ _ _ _ us hl => match us, hl with | [_], _ => rfl
  have F_law_frame := fun_mk (st := st_law_frame) l_law_frame c_law_frame k_law_frame
  have B_law_frame := F_law_frame.binds (ps := ["session", "head", "message"]) fun _ _ _ _ _ _ us hl => match us, hl with | [_, _, _], _ => rfl
  have F_law_thing := fun_mk (st := st_law_thing) l_law_thing c_law_thing k_law_thing
  have B_law_thing := F_law_thing.binds (ps := ["source"]) fun _ _ _ _ _ _ us hl => match us, hl with | [_], _ => rfl
  have F_low_octet := fun_mk (st := st_low_octet) l_low_octet c_low_octet k_low_octet
  have B_low_octet := F_low_octet.binds (ps := ["number"]) fun _ _ _ _ _ _ us hl => match us, hl with | [_], _ => rfl
  have F_Framer_dropped := fun_mk (st := st_Framer_dropped) l_Framer_dropped c_Framer_dropped k_Framer_dropped
  have B_Framer_dropped := F_Framer_dropped.binds (ps := ["self"]) fun _ _ _ _ _ _ us hl => match us, hl with | [_], _ => rfl
  have F_Framer_taken := fun_mk (st := st_Framer_taken) l_Framer_taken c_Framer_taken k_Framer_taken
  have B_Framer_taken := F_Framer_taken.binds (ps := ["self", "octet"]) fun _ _ _ _ _ _ us hl => match us, hl with | [_, _], _ => rfl
  have F_Framer_feed := fun_mk (st := st_Framer_feed) l_Framer_feed c_Framer_feed k_Framer_feed
  have B_Framer_feed := F_Framer_feed.binds (ps := ["self", "octets"]) fun _ _ _ _ _ _ us hl => match us, hl with | [_, _], _ => rfl
  have F_law_fed := fun_mk (st := st_law_fed) l_law_fed c_law_fed k_law_fed
  have B_law_fed := F_law_fed.binds (ps := ["framer", "pieces"]) fun _ _ _ _ _ _ us hl => match us, hl with | [_, _], _ => rfl
  have F_law_same := fun_mk (st := st_law_same) l_law_same c_law_same k_law_same
  have B_law_same := F_law_same.binds (ps := ["answer", "due"]) fun _ _ _ _ _ _ us hl => match us, hl with | [_, _], _ => rfl
  have F_Framer___init__ := fun_mk (st := st_Framer___init__) l_Framer___init__ c_Framer___init__ k_Framer___init__
  have B_Framer___init__ := F_Framer___init__.binds (ps := ["self"]) fun _ _ _ _ _ _ us hl => match us, hl with | [_], _ => rfl
  have F_Framer_pending := fun_mk (st := st_Framer_pending) l_Framer_pending c_Framer_pending k_Framer_pending
  have B_Framer_pending := F_Framer_pending.binds (ps := ["self"]) fun _ _ _ _ _ _ us hl => match us, hl with | [_], _ => rfl
  have F_law := fun_mk (st := st_law) l_law c_law k_law
  have B_law := F_law.binds (ps := ["script"]) fun _ _ _ _ _ _ us hl => match us, hl with | [_], _ => rfl
  have T : Tx P w K mg h ⟨f_law_source, (PySem.W.fnOf "_law_source" "_law_source" (defArgs st_law_source) (defBody st_law_source) (defScope st_law_source) .none kV_law_source dc_law_source pm_law_source an_law_source cd_law_source ct_law_source), f_law_pick, (PySem.W.fnOf "_law_pick" "_law_pick" (defArgs st_law_pick) (defBody st_law_pick) (defScope st_law_pick) .none kV_law_pick dc_law_pick pm_law_pick an_law_pick cd_law_pick ct_law_pick), f_law_cuttings, (PySem.W.fnOf "_law_cuttings" "_law_cuttings" (defArgs st_law_cuttings) (defBody st_law_cuttings) (defScope st_law_cuttings) .none kV_law_cuttings dc_law_cuttings pm_law_cuttings an_law_cuttings cd_law_cuttings ct_law_cuttings), f_law_octet, (PySem.W.fnOf "_law_octet" "_law_octet" (defArgs st_law_octet) (defBody st_law_octet) (defScope st_law_octet) .none kV_law_octet dc_law_octet pm_law_octet an_law_octet cd_law_octet ct_law_octet), f_law_message, (PySem.W.fnOf "_law_message" "_law_message" (defArgs st_law_message) (defBody st_law_message) (defScope st_law_message) .none kV_law_message dc_law_message pm_law_message an_law_message cd_law_message ct_law_message), f_law_escaped, (PySem.W.fnOf "_law_escaped" "_law_escaped" (defArgs st_law_escaped) (defBody st_law_escaped) (defScope st_law_escaped) .none kV_law_escaped dc_law_escaped pm_law_escaped an_law_escaped cd_law_escaped ct_law_escaped), f_law_frame, (PySem.W.fnOf "_law_frame" "_law_frame" (defArgs st_law_frame) (defBody st_law_frame) (defScope st_law_frame) .none kV_law_frame dc_law_frame pm_law_frame an_law_frame cd_law_frame ct_law_frame), f_law_thing, (PySem.W.fnOf "_law_thing" "_law_thing" (defArgs st_law_thing) (defBody st_law_thing) (defScope st_law_thing) .none kV_law_thing dc_law_thing pm_law_thing an_law_thing cd_law_thing ct_law_thing), f_low_octet, (PySem.W.fnOf "low_octet" "low_octet" (defArgs st_low_octet) (defBody st_low_octet) (defScope st_low_octet) .none kV_low_octet dc_low_octet pm_low_octet an_low_octet cd_low_octet ct_low_octet), f_Framer_dropped, (PySem.W.fnOf "dropped" "Framer.dropped" (defArgs st_Framer_dropped) (defBody st_Framer_dropped) (defScope st_Framer_dropped) .none kV_Framer_dropped dc_Framer_dropped pm_Framer_dropped an_Framer_dropped cd_Framer_dropped ct_Framer_dropped), f_Framer_taken, (PySem.W.fnOf "taken" "Framer.taken" (defArgs st_Framer_taken) (defBody st_Framer_taken) (defScope st_Framer_taken) .none kV_Framer_taken dc_Framer_taken pm_Framer_taken an_Framer_taken cd_Framer_taken ct_Framer_taken), f_Framer_feed, (PySem.W.fnOf "feed" "Framer.feed" (defArgs st_Framer_feed) (defBody st_Framer_feed) (defScope st_Framer_feed) .none kV_Framer_feed dc_Framer_feed pm_Framer_feed an_Framer_feed cd_Framer_feed ct_Framer_feed), f_law_fed, (PySem.W.fnOf "_law_fed" "_law_fed" (defArgs st_law_fed) (defBody st_law_fed) (defScope st_law_fed) .none kV_law_fed dc_law_fed pm_law_fed an_law_fed cd_law_fed ct_law_fed), f_law_same, (PySem.W.fnOf "_law_same" "_law_same" (defArgs st_law_same) (defBody st_law_same) (defScope st_law_same) .none kV_law_same dc_law_same pm_law_same an_law_same cd_law_same ct_law_same), f_Framer___init__, (PySem.W.fnOf "__init__" "Framer.__init__" (defArgs st_Framer___init__) (defBody st_Framer___init__) (defScope st_Framer___init__) .none kV_Framer___init__ dc_Framer___init__ pm_Framer___init__ an_Framer___init__ cd_Framer___init__ ct_Framer___init__), f_Framer_pending, (PySem.W.fnOf "pending" "Framer.pending" (defArgs st_Framer_pending) (defBody st_Framer_pending) (defScope st_Framer_pending) .none kV_Framer_pending dc_Framer_pending pm_Framer_pending an_Framer_pending cd_Framer_pending ct_Framer_pending), fa, (PySem.W.fnOf "law" "law" (defArgs st_law) (defBody st_law) (defScope st_law) .none kV_law dc_law pm_law an_law cd_law ct_law), c_Framer⟩ :=
    { F_law_source := F_law_source,
      b_law_source := B_law_source,
      m_law_source := PySem.W.mg_of X G a_law_source,
      F_law_pick := F_law_pick,
      b_law_pick := B_law_pick,
      m_law_pick := PySem.W.mg_of X G a_law_pick,
      F_law_cuttings := F_law_cuttings,
      b_law_cuttings := B_law_cuttings,
      m_law_cuttings := PySem.W.mg_of X G a_law_cuttings,
      F_law_octet := F_law_octet,
      b_law_octet := B_law_octet,
      m_law_octet := PySem.W.mg_of X G a_law_octet,
      F_law_message := F_law_message,
      b_law_message := B_law_message,
      m_law_message := PySem.W.mg_of X G a_law_message,
      F_law_escaped := F_law_escaped,
      b_law_escaped := B_law_escaped,
      m_law_escaped := PySem.W.mg_of X G a_law_escaped,
      F_law_frame := F_law_frame,
      b_law_frame := B_law_frame,
      m_law_frame := PySem.W.mg_of X G a_law_frame,
      F_law_thing := F_law_thing,
      b_law_thing := B_law_thing,
      m_law_thing := PySem.W.mg_of X G a_law_thing,
      F_low_octet := F_low_octet,
      b_low_octet := B_low_octet,
      m_low_octet := PySem.W.mg_of X G a_low_octet,
      F_Framer_dropped := F_Framer_dropped,
      b_Framer_dropped := B_Framer_dropped,
      me_Framer_dropped := ⟨a_Framer_dropped, i_Framer_dropped, k_Framer_dropped⟩,
      F_Framer_taken := F_Framer_taken,
      b_Framer_taken := B_Framer_taken,
      me_Framer_taken := ⟨a_Framer_taken, i_Framer_taken, k_Framer_taken⟩,
      F_Framer_feed := F_Framer_feed,
      b_Framer_feed := B_Framer_feed,
      me_Framer_feed := ⟨a_Framer_feed, i_Framer_feed, k_Framer_feed⟩,
      F_law_fed := F_law_fed,
      b_law_fed := B_law_fed,
      m_law_fed := PySem.W.mg_of X G a_law_fed,
      F_law_same := F_law_same,
      b_law_same := B_law_same,
      m_law_same := PySem.W.mg_of X G a_law_same,
      F_Framer___init__ := F_Framer___init__,
      b_Framer___init__ := B_Framer___init__,
      me_Framer___init__ := ⟨a_Framer___init__, i_Framer___init__, k_Framer___init__⟩,
      F_Framer_pending := F_Framer_pending,
      b_Framer_pending := B_Framer_pending,
      me_Framer_pending := ⟨a_Framer_pending, i_Framer_pending, k_Framer_pending⟩,
      F_law := F_law,
      b_law := B_law,
      m_law := PySem.W.mg_of X G a_law,
      i_ESCAPE := ⟨_, PySem.W.mg_of X G j_ESCAPE⟩,
      i_LEAST := ⟨_, PySem.W.mg_of X G j_LEAST⟩,
      i_MARK := ⟨_, PySem.W.mg_of X G j_MARK⟩,
      i_MOST := ⟨_, PySem.W.mg_of X G j_MOST⟩,
      g_Framer := PySem.W.mg_of X G aC_Framer,
      cl_Framer := ⟨pg_Framer, hd_Framer, po_Framer, sa_Framer⟩,
      mk_Framer := ⟨mk_Framer, a_Framer___init__, i_Framer___init__, kc_Framer⟩,
      na_Framer_body := na_Framer_body,
      na_Framer_many := na_Framer_many,
      na_Framer_waits := na_Framer_waits,
      z_abs := PySem.W.mg_none_of X G z_abs,
      z_all := PySem.W.mg_none_of X G z_all,
      z_dict := PySem.W.mg_none_of X G z_dict,
      z_int := PySem.W.mg_none_of X G z_int,
      z_isinstance := PySem.W.mg_none_of X G z_isinstance,
      z_len := PySem.W.mg_none_of X G z_len,
      z_list := PySem.W.mg_none_of X G z_list,
      z_range := PySem.W.mg_none_of X G z_range,
      z_repr := PySem.W.mg_none_of X G z_repr,
      z_sorted := PySem.W.mg_none_of X G z_sorted,
      z_str := PySem.W.mg_none_of X G z_str,
      z_sum := PySem.W.mg_none_of X G z_sum,
      z_tuple := PySem.W.mg_none_of X G z_tuple }
  exact ⟨_, fun s v => .of_eq rfl, fun base _ _ => law_fn keeps (ok_law (base := base) ⟨T.F_law_source, T.b_law_source, T.m_law_source, T.F_law_pick, T.b_law_pick, T.m_law_pick, T.F_law_cuttings, T.b_law_cuttings, T.m_law_cuttings, T.F_law_octet, T.b_law_octet, T.m_law_octet, T.F_law_message, T.b_law_message, T.m_law_message, T.F_law_escaped, T.b_law_escaped, T.m_law_escaped, T.F_law_frame, T.b_law_frame, T.m_law_frame, T.F_law_thing, T.b_law_thing, T.m_law_thing, T.F_low_octet, T.b_low_octet, T.m_low_octet, T.F_Framer_dropped, T.b_Framer_dropped, T.me_Framer_dropped, T.F_Framer_taken, T.b_Framer_taken, T.me_Framer_taken, T.F_Framer_feed, T.b_Framer_feed, T.me_Framer_feed, T.F_law_fed, T.b_law_fed, T.m_law_fed, T.F_law_same, T.b_law_same, T.m_law_same, T.F_Framer___init__, T.b_Framer___init__, T.me_Framer___init__, T.F_Framer_pending, T.b_Framer_pending, T.me_Framer_pending, T.F_law, T.b_law, T.m_law, T.i_ESCAPE, T.i_LEAST, T.i_MARK, T.i_MOST, T.g_Framer, T.cl_Framer, T.mk_Framer, T.na_Framer_body, T.na_Framer_many, T.na_Framer_waits, T.z_abs, T.z_all, T.z_dict, T.z_int, T.z_isinstance, T.z_len, T.z_list, T.z_range, T.z_repr, T.z_sorted, T.z_str, T.z_sum, T.z_tuple⟩)⟩
end K26
open PySem PySem.W PyProof.Rows in
set_option maxRecDepth 100000 in
set_option maxHeartbeats 0 in
theorem PySem.Challenge.cw_howeverlost_k26_whole_frames_in_every_cu_holds : PySem.Challenge.rw_howeverlost_k26_whole_frames_in_every_cu.Holds := by
  w_on; o_law; k_head; (case hw => w_witness2)
  k_fill
  refine Bx.walk (l := PySem.Challenge.rw_howeverlost_k26_whole_frames_in_every_cu) (k := 10) rfl rfl ⟨rfl, by decide, by decide⟩ (fun w h Y => PySem.W.kIn_of Y) ?F
  case F =>
    intro w mg fa h KX G hmg
    refine' K26.all_mk KX G hmg ?aC_Framer ?pg_Framer ?hd_Framer ?po_Framer ?sa_Framer ?mk_Framer ?kc_Framer ?na_Framer_body ?na_Framer_many ?na_Framer_waits ?j_ESCAPE ?j_LEAST ?j_MARK ?j_MOST ?a_law_source ?l_law_source ?c_law_source ?k_law_source ?a_law_pick ?l_law_pick ?c_law_pick ?k_law_pick ?a_law_cuttings ?l_law_cuttings ?c_law_cuttings ?k_law_cuttings ?a_law_octet ?l_law_octet ?c_law_octet ?k_law_octet ?a_law_message ?l_law_message ?c_law_message ?k_law_message ?a_law_escaped ?l_law_escaped ?c_law_escaped ?k_law_escaped ?a_law_frame ?l_law_frame ?c_law_frame ?k_law_frame ?a_law_thing ?l_law_thing ?c_law_thing ?k_law_thing ?a_low_octet ?l_low_octet ?c_low_octet ?k_low_octet ?a_Framer_dropped ?i_Framer_dropped ?l_Framer_dropped ?c_Framer_dropped ?k_Framer_dropped ?a_Framer_taken ?i_Framer_taken ?l_Framer_taken ?c_Framer_taken ?k_Framer_taken ?a_Framer_feed ?i_Framer_feed ?l_Framer_feed ?c_Framer_feed ?k_Framer_feed ?a_law_fed ?l_law_fed ?c_law_fed ?k_law_fed ?a_law_same ?l_law_same ?c_law_same ?k_law_same ?a_Framer___init__ ?i_Framer___init__ ?l_Framer___init__ ?c_Framer___init__ ?k_Framer___init__ ?a_Framer_pending ?i_Framer_pending ?l_Framer_pending ?c_Framer_pending ?k_Framer_pending ?a_law ?l_law ?c_law ?k_law ?z_abs ?z_all ?z_dict ?z_int ?z_isinstance ?z_len ?z_list ?z_range ?z_repr ?z_sorted ?z_str ?z_sum ?z_tuple
    (case aC_Framer => k_is)
    (case pg_Framer => k_is)
    (case hd_Framer => k_is)
    (case po_Framer => k_is)
    (case sa_Framer => k_is)
    (case mk_Framer => k_is)
    (case kc_Framer => k_is)
    (case na_Framer_body => k_is)
    (case na_Framer_many => k_is)
    (case na_Framer_waits => k_is)
    (case j_ESCAPE => k_is)
    (case j_LEAST => k_is)
    (case j_MARK => k_is)
    (case j_MOST => k_is)
    (case a_law_source => k_is)
    (case l_law_source => k_is)
    (case c_law_source => k_is)
    (case k_law_source => k_is)
    (case a_law_pick => k_is)
    (case l_law_pick => k_is)
    (case c_law_pick => k_is)
    (case k_law_pick => k_is)
    (case a_law_cuttings => k_is)
    (case l_law_cuttings => k_is)
    (case c_law_cuttings => k_is)
    (case k_law_cuttings => k_is)
    (case a_law_octet => k_is)
    (case l_law_octet => k_is)
    (case c_law_octet => k_is)
    (case k_law_octet => k_is)
    (case a_law_message => k_is)
    (case l_law_message => k_is)
    (case c_law_message => k_is)
    (case k_law_message => k_is)
    (case a_law_escaped => k_is)
    (case l_law_escaped => k_is)
    (case c_law_escaped => k_is)
    (case k_law_escaped => k_is)
    (case a_law_frame => k_is)
    (case l_law_frame => k_is)
    (case c_law_frame => k_is)
    (case k_law_frame => k_is)
    (case a_law_thing => k_is)
    (case l_law_thing => k_is)
    (case c_law_thing => k_is)
    (case k_law_thing => k_is)
    (case a_low_octet => k_is)
    (case l_low_octet => k_is)
    (case c_low_octet => k_is)
    (case k_low_octet => k_is)
    (case a_Framer_dropped => k_is)
    (case i_Framer_dropped => k_is)
    (case l_Framer_dropped => k_is)
    (case c_Framer_dropped => k_is)
    (case k_Framer_dropped => k_is)
    (case a_Framer_taken => k_is)
    (case i_Framer_taken => k_is)
    (case l_Framer_taken => k_is)
    (case c_Framer_taken => k_is)
    (case k_Framer_taken => k_is)
    (case a_Framer_feed => k_is)
    (case i_Framer_feed => k_is)
    (case l_Framer_feed => k_is)
    (case c_Framer_feed => k_is)
    (case k_Framer_feed => k_is)
    (case a_law_fed => k_is)
    (case l_law_fed => k_is)
    (case c_law_fed => k_is)
    (case k_law_fed => k_is)
    (case a_law_same => k_is)
    (case l_law_same => k_is)
    (case c_law_same => k_is)
    (case k_law_same => k_is)
    (case a_Framer___init__ => k_is)
    (case i_Framer___init__ => k_is)
    (case l_Framer___init__ => k_is)
    (case c_Framer___init__ => k_is)
    (case k_Framer___init__ => k_is)
    (case a_Framer_pending => k_is)
    (case i_Framer_pending => k_is)
    (case l_Framer_pending => k_is)
    (case c_Framer_pending => k_is)
    (case k_Framer_pending => k_is)
    (case a_law => k_is)
    (case l_law => k_is)
    (case c_law => k_is)
    (case k_law => k_is)
    (case z_abs => k_is)
    (case z_all => k_is)
    (case z_dict => k_is)
    (case z_int => k_is)
    (case z_isinstance => k_is)
    (case z_len => k_is)
    (case z_list => k_is)
    (case z_range => k_is)
    (case z_repr => k_is)
    (case z_sorted => k_is)
    (case z_str => k_is)
    (case z_sum => k_is)
    (case z_tuple => k_is)
#print axioms PySem.Challenge.cw_howeverlost_k26_whole_frames_in_every_cu_holds

