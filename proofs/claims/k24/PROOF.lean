import PyProof.Rows.All
import Wide.All
import OpenK.AllK
import Wide.FinOn
import HandS.ForMost
import HandS.IsInst
import HandS.ForExc
import HandS.Flow
import HandS.ExcInit
import HandS.SortInts
import HandS.RaiseMore
import HandS.Wide
import HandS.Small
import HandS.ExcField
import HandS.EndBits
import PySem.Challenge.RW_howeverlost_k24_words_sessions_budgets
set_option Elab.async false
set_option linter.all false
set_option maxRecDepth 100000
set_option maxHeartbeats 1000000
/-! Data layer: values as trees (D), what of them is owned, frozen; canonical readings. -/
namespace Bx
open PySem L2

inductive Kd where
  | lst | tup | wl | wt
  | dk (ks : List Key) | dt (ks : List (List Key))
  | ins (c : Str) (fn : List Str)

inductive D where
  | non | bl (b : Bool) | int (i : Int) | str (x : Str) | ty (n : String)
  | nd (k : Kd) (o : Bool) (xs : List D)

abbrev Fp := Addr → Nat

mutual
def frz : D → D
  | .non => .non | .bl b => .bl b | .int i => .int i | .str x => .str x | .ty n => .ty n
  | .nd k _ xs => .nd k false (frzs xs)
def frzs : List D → List D
  | [] => []
  | x :: xs => frz x :: frzs xs
end

structure Gc where
  K : PySem.W.Frag
  ca : Str → Addr

def At (G : Gc) (H : Hp) (a : Addr) : Kd → List V → Prop
  | .lst, vs => H a = some (.lst vs)
  | .tup, vs => H a = some (.tup vs)
  | .wl, vs => SqL G.K H a vs
  | .wt, vs => SqT G.K H a vs
  | .dk ks, vs => (ks.length = vs.length ∧ ks.Nodup) ∧ H a = some (.dK (ks.zip vs))
  | .dt ks, vs => (ks.length = vs.length ∧ ks.Nodup) ∧ H a = some (.dT (ks.zip vs))
  | .ins c fn, vs => fn.length = vs.length ∧ ∃ dx, H a = some (.ins (G.ca c) dx (fn.zip vs))
/-- a kind that may be owned -/
def Kd.ow : Kd → Bool
  | .wl => false
  | .wt => false
  | _ => true

mutual
inductive Rp (G : Gc) (Hs H : Hp) : V → D → Fp → Prop
  | non {f} (z : ∀ b, f b = 0) : Rp G Hs H .non .non f
  | bl {b f} (z : ∀ b, f b = 0) : Rp G Hs H (.bl b) (.bl b) f
  | int {i f} (z : ∀ b, f b = 0) : Rp G Hs H (.int i) (.int i) f
  | str {x f} (z : ∀ b, f b = 0) : Rp G Hs H (.str x) (.str x) f
  | ty {n f} (z : ∀ b, f b = 0) : Rp G Hs H (.ty n) (.ty n) f
  | sh {a k vs xs f} (h : At G Hs a k vs) (r : Rps G Hs H vs xs f) (z : ∀ b, f b = 0) : Rp G Hs H (.ref a) (.nd k false xs) f
  | own {a k vs xs f g} (h : At G H a k vs) (w : k.ow = true) (n : Hs a = none) (r : Rps G Hs H vs xs f) (e : ∀ b, g b = f b + if b = a then 1 else 0) : Rp G Hs H (.ref a) (.nd k true xs) g
inductive Rps (G : Gc) (Hs H : Hp) : List V → List D → Fp → Prop
  | nil {f} (z : ∀ b, f b = 0) : Rps G Hs H [] [] f
  | cons {v d f vs ds g h} (r : Rp G Hs H v d f) (rs : Rps G Hs H vs ds g) (e : ∀ b, h b = f b + g b) : Rps G Hs H (v :: vs) (d :: ds) h
end

theorem Same.seqT {K : PySem.W.Frag} {H H' : Hp} {a : Addr} {xs : List V} (e : Same H H') (h : SqT K H a xs) : SqT K H' a xs := by
  rcases h with (h | ⟨o, h⟩) | h
  · exact .inl (.inl (e _ _ h))
  · exact .inl (.inr ⟨o, e _ _ h⟩)
  · exact .inr h

section
variable {G : Gc} {Hs Hs' H H' : Hp} {v : V} {d : D} {f g : Fp} {vs : List V} {ds : List D} {a : Addr} {k : Kd}

theorem At.mono (s : Same Hs Hs') (h : At G Hs a k vs) : At G Hs' a k vs := by
  cases k with
  | lst => exact s _ _ h
  | tup => exact s _ _ h
  | wl => exact Same.seq s h
  | wt => exact Same.seqT s h
  | dk ks => exact ⟨h.1, s _ _ h.2⟩
  | dt ks => exact ⟨h.1, s _ _ h.2⟩
  | ins c fn => obtain ⟨h1, dx, h2⟩ := h; exact ⟨h1, dx, s _ _ h2⟩
theorem Rd.eq {u : HO} (e : H' a = H a) (h : Rd H a u) : Rd H' a u := by
  rcases h with h | ⟨o, h⟩
  · exact .inl (e.trans h)
  · exact .inr ⟨o, e.trans h⟩
theorem At.eq (e : H' a = H a) (h : At G H a k vs) : At G H' a k vs := by
  cases k with
  | lst => exact e.trans h
  | tup => exact e.trans h
  | wl => exact Or.imp_left (Rd.eq e) h
  | wt => exact Or.imp_left (Rd.eq e) h
  | dk ks => exact ⟨h.1, e.trans h.2⟩
  | dt ks => exact ⟨h.1, e.trans h.2⟩
  | ins c fn => obtain ⟨h1, dx, h2⟩ := h; exact ⟨h1, dx, e.trans h2⟩
theorem At.live (h : At G H a k vs) (w : k.ow = true) : H a ≠ none := by
  cases k with
  | lst => intro z; rw [show H a = some (.lst vs) from h] at z; cases z
  | tup => intro z; rw [show H a = some (.tup vs) from h] at z; cases z
  | wl => cases w
  | wt => cases w
  | dk ks => intro z; rw [h.2] at z; cases z
  | dt ks => intro z; rw [h.2] at z; cases z
  | ins c fn => obtain ⟨h1, dx, h2⟩ := h; intro z; rw [h2] at z; cases z

mutual
theorem Rp.mono {v : V} {d : D} {f : Fp} (s : Same Hs Hs') : Rp G Hs H v d f → (∀ b, f b ≠ 0 → H' b = H b ∧ Hs' b = none) → Rp G Hs' H' v d f
  | .non z, _ => .non z
  | .bl z, _ => .bl z
  | .int z, _ => .int z
  | .str z, _ => .str z
  | .ty z, _ => .ty z
  | .sh h r z, k => .sh (h.mono s) (Rps.mono s r fun b hb => absurd (z b) hb) z
  | .own (a := a) h w n r e, k => by
    have ka := k a (by rw [e a, if_pos rfl]; omega)
    exact .own (h.eq ka.1) w ka.2 (Rps.mono s r fun b hb => k b (by rw [e b]; omega)) e
theorem Rps.mono {vs : List V} {ds : List D} {f : Fp} (s : Same Hs Hs') : Rps G Hs H vs ds f → (∀ b, f b ≠ 0 → H' b = H b ∧ Hs' b = none) → Rps G Hs' H' vs ds f
  | .nil z, _ => .nil z
  | .cons r rs e, k => .cons (Rp.mono s r fun b hb => k b (by rw [e b]; omega)) (Rps.mono s rs fun b hb => k b (by rw [e b]; omega)) e
end
mutual
theorem Rp.live {v : V} {d : D} {f : Fp} : Rp G Hs H v d f → ∀ b, f b ≠ 0 → H b ≠ none ∧ Hs b = none
  | .non z, b, hb => absurd (z b) hb
  | .bl z, b, hb => absurd (z b) hb
  | .int z, b, hb => absurd (z b) hb
  | .str z, b, hb => absurd (z b) hb
  | .ty z, b, hb => absurd (z b) hb
  | .sh h r z, b, hb => absurd (z b) hb
  | .own (a := a) h w n r e, b, hb => by
    by_cases hba : b = a
    · subst hba; exact ⟨h.live w, n⟩
    · rw [e b, if_neg hba] at hb
      exact Rps.live r b hb
theorem Rps.live {vs : List V} {ds : List D} {f : Fp} : Rps G Hs H vs ds f → ∀ b, f b ≠ 0 → H b ≠ none ∧ Hs b = none
  | .nil z, b, hb => absurd (z b) hb
  | .cons (f := f1) (g := g1) r rs e, b, hb => by
    by_cases h1 : f1 b = 0
    · exact Rps.live rs b (by rw [e b, h1] at hb; simpa using hb)
    · exact Rp.live r b h1
end
mutual
/-- what is owned is laid into the frozen part -/
theorem Rp.frz {v : V} {d : D} {f : Fp} (s : Same Hs Hs') {f0 : Fp} (z0 : ∀ b, f0 b = 0) : Rp G Hs H v d f → (∀ b, f b ≠ 0 → Hs' b = H b) → Rp G Hs' H v (frz d) f0
  | .non z, _ => .non z0
  | .bl z, _ => .bl z0
  | .int z, _ => .int z0
  | .str z, _ => .str z0
  | .ty z, _ => .ty z0
  | .sh h r z, k => .sh (h.mono s) (Rps.frz s z0 r fun b hb => absurd (z b) hb) z0
  | .own (a := a) h w n r e, k => by
    have ka := k a (by rw [e a, if_pos rfl]; omega)
    exact .sh (h.eq ka) (Rps.frz s z0 r fun b hb => k b (by rw [e b]; omega)) z0
theorem Rps.frz {vs : List V} {ds : List D} {f : Fp} (s : Same Hs Hs') {f0 : Fp} (z0 : ∀ b, f0 b = 0) : Rps G Hs H vs ds f → (∀ b, f b ≠ 0 → Hs' b = H b) → Rps G Hs' H vs (frzs ds) f0
  | .nil z, _ => .nil z0
  | .cons r rs e, k => .cons (Rp.frz s z0 r fun b hb => k b (by rw [e b]; omega)) (Rps.frz s z0 rs fun b hb => k b (by rw [e b]; omega)) (fun b => by rw [z0 b])
end
mutual
theorem Rp.fp {v : V} {d : D} {f f' : Fp} : Rp G Hs H v d f → (∀ b, f' b = f b) → Rp G Hs H v d f'
  | .non z, e => .non fun b => (e b).trans (z b)
  | .bl z, e => .bl fun b => (e b).trans (z b)
  | .int z, e => .int fun b => (e b).trans (z b)
  | .str z, e => .str fun b => (e b).trans (z b)
  | .ty z, e => .ty fun b => (e b).trans (z b)
  | .sh h r z, e => .sh h (Rps.fp r e) fun b => (e b).trans (z b)
  | .own h w n r e', e => .own h w n r fun b => (e b).trans (e' b)
theorem Rps.fp {vs : List V} {ds : List D} {f f' : Fp} : Rps G Hs H vs ds f → (∀ b, f' b = f b) → Rps G Hs H vs ds f'
  | .nil z, e => .nil fun b => (e b).trans (z b)
  | .cons r rs e', e => .cons r rs fun b => (e b).trans (e' b)
end
theorem Rps.len : ∀ {vs : List V} {ds : List D} {f : Fp}, Rps G Hs H vs ds f → vs.length = ds.length
  | _, _, _, .nil _ => rfl
  | _, _, _, .cons _ rs _ => congrArg (· + 1) rs.len
theorem Rps.app : ∀ {vs ws : List V} {ds es : List D} {f g h : Fp}, Rps G Hs H vs ds f → Rps G Hs H ws es g → (∀ b, h b = f b + g b) → Rps G Hs H (vs ++ ws) (ds ++ es) h
  | _, _, _, _, _, _, _, .nil z, r, e => r.fp fun b => by rw [e b, z b]; omega
  | _, _, _, _, _, g, h, .cons (f := f1) (g := g1) r rs e', r2, e => .cons r (Rps.app rs r2 (h := fun b => g1 b + g b) fun b => rfl) fun b => by rw [e b, e' b]; show _ = f1 b + (g1 b + g b); omega
/-- one of them, and the others -/
theorem Rps.get : ∀ {vs : List V} {ds : List D} {f : Fp} {i : Nat} {d : D}, Rps G Hs H vs ds f → ds[i]? = some d →
    ∃ (v : V) (f1 f2 : Fp), vs[i]? = some v ∧ Rp G Hs H v d f1 ∧ (∀ b, f b = f1 b + f2 b) ∧
      (∀ v' d' f1' f', Rp G Hs H v' d' f1' → (∀ b, f' b = f1' b + f2 b) → Rps G Hs H (vs.set i v') (ds.set i d') f')
  | _, _, _, i, _, .nil _, h => by simp at h
  | _, _, _, 0, _, .cons (f := f1) (g := g1) r rs e, h => by
    simp at h; subst h
    exact ⟨_, f1, g1, rfl, r, e, fun v' d' f1' f' r' e' => .cons r' rs e'⟩
  | _, _, _, i + 1, _, .cons (f := f1) (g := g1) r rs e, h => by
    obtain ⟨v, a1, a2, h1, h2, h3, h4⟩ := Rps.get rs (i := i) (by simpa using h)
    refine ⟨v, a1, fun b => f1 b + a2 b, by simpa using h1, h2, fun b => by rw [e b, h3 b]; show _ = a1 b + (f1 b + a2 b); omega, fun v' d' f1' f' r' e' => ?_⟩
    exact .cons r (h4 v' d' f1' (fun b => f1' b + a2 b) r' fun b => rfl) fun b => by rw [e' b]; show f1' b + (f1 b + a2 b) = f1 b + (f1' b + a2 b); omega
end

/-! ### slots -/
inductive Sls (G : Gc) (Hs H : Hp) : L2.St → List (Option D) → Fp → Prop
  | nil {f} (z : ∀ b, f b = 0) : Sls G Hs H [] [] f
  | no {o σ e f} (r : Sls G Hs H σ e f) : Sls G Hs H (o :: σ) (none :: e) f
  | yes {v d f σ e g h} (r : Rp G Hs H v d f) (rs : Sls G Hs H σ e g) (q : ∀ b, h b = f b + g b) : Sls G Hs H (some v :: σ) (some d :: e) h
section
variable {G : Gc} {Hs Hs' H H' : Hp}
theorem Sls.fp : ∀ {σ : L2.St} {e : List (Option D)} {f f' : Fp}, Sls G Hs H σ e f → (∀ b, f' b = f b) → Sls G Hs H σ e f'
  | _, _, _, _, .nil z, q => .nil fun b => (q b).trans (z b)
  | _, _, _, _, .no r, q => .no (r.fp q)
  | _, _, _, _, .yes r rs e, q => .yes r rs fun b => (q b).trans (e b)
theorem Sls.mono (s : Same Hs Hs') : ∀ {σ : L2.St} {e : List (Option D)} {f : Fp}, Sls G Hs H σ e f → (∀ b, f b ≠ 0 → H' b = H b ∧ Hs' b = none) → Sls G Hs' H' σ e f
  | _, _, _, .nil z, _ => .nil z
  | _, _, _, .no r, k => .no (r.mono s k)
  | _, _, _, .yes r rs e, k => .yes (r.mono s fun b hb => k b (by rw [e b]; omega)) (rs.mono s fun b hb => k b (by rw [e b]; omega)) e
theorem Sls.live : ∀ {σ : L2.St} {e : List (Option D)} {f : Fp}, Sls G Hs H σ e f → ∀ b, f b ≠ 0 → H b ≠ none ∧ Hs b = none
  | _, _, _, .nil z, b, hb => absurd (z b) hb
  | _, _, _, .no r, b, hb => r.live b hb
  | _, _, _, .yes (f := f1) r rs e, b, hb => by
    by_cases h1 : f1 b = 0
    · exact rs.live b (by rw [e b, h1] at hb; simpa using hb)
    · exact r.live b h1
theorem Sls.len : ∀ {σ : L2.St} {e : List (Option D)} {f : Fp}, Sls G Hs H σ e f → σ.length = e.length
  | _, _, _, .nil _ => rfl
  | _, _, _, .no r => congrArg (· + 1) r.len
  | _, _, _, .yes _ rs _ => congrArg (· + 1) rs.len
/-- one slot and the others: its value, what is left without it, what may be put there -/
theorem Sls.get : ∀ {σ : L2.St} {e : List (Option D)} {f : Fp} {i : Nat} {d : D}, Sls G Hs H σ e f → e[i]? = some (some d) →
    ∃ (v : V) (f1 f2 : Fp), σ[i]? = some (some v) ∧ Rp G Hs H v d f1 ∧ (∀ b, f b = f1 b + f2 b) ∧ Sls G Hs H σ (e.set i none) f2
  | _, _, _, i, _, .nil _, h => by simp at h
  | _, _, _, 0, _, .no r, h => by simp at h
  | _, _, _, i + 1, _, .no r, h => by
    obtain ⟨v, f1, f2, h1, h2, h3, h4⟩ := Sls.get r (i := i) (by simpa using h)
    exact ⟨v, f1, f2, by simpa using h1, h2, h3, .no h4⟩
  | _, _, _, 0, _, .yes (f := f1) (g := g1) r rs q, h => by
    simp at h; subst h
    exact ⟨_, f1, g1, rfl, r, q, .no rs⟩
  | _, _, _, i + 1, _, .yes (f := f1) (g := g1) r rs q, h => by
    obtain ⟨v, a1, a2, h1, h2, h3, h4⟩ := Sls.get rs (i := i) (by simpa using h)
    exact ⟨v, a1, fun b => f1 b + a2 b, by simpa using h1, h2, fun b => by rw [q b, h3 b]; show _ = a1 b + (f1 b + a2 b); omega, .yes r h4 fun b => rfl⟩
/-- a value into a slot that holds none -/
theorem Sls.put : ∀ {σ : L2.St} {e : List (Option D)} {f g h : Fp} {i : Nat} {v : V} {d : D}, Sls G Hs H σ e f → e[i]? = some none → Rp G Hs H v d g → (∀ b, h b = g b + f b) →
    Sls G Hs H (σ.set i (some v)) (e.set i (some d)) h
  | _, _, _, _, _, i, _, _, .nil _, h, _, _ => by simp at h
  | _, _, _, _, _, 0, _, _, .no r, h, rp, q => .yes rp r q
  | _, _, _, _, _, i + 1, _, _, .no r, h, rp, q => .no (Sls.put r (by simpa using h) rp q)
  | _, _, _, _, _, 0, _, _, .yes r rs q, h, _, _ => by simp at h
  | _, _, _, g, _, i + 1, _, _, .yes (f := f1) (g := g1) r rs q, h, rp, q2 => .yes r (Sls.put rs (h := fun b => g b + g1 b) (by simpa using h) rp fun b => rfl) fun b => by rw [q2 b, q b]; show _ = f1 b + (g b + g1 b); omega
/-- a slot forgotten -/
theorem Sls.forget : ∀ {σ : L2.St} {e : List (Option D)} {f : Fp} (i : Nat), Sls G Hs H σ e f → ∃ (f1 f2 : Fp), (∀ b, f b = f1 b + f2 b) ∧ Sls G Hs H σ (e.set i none) f2
  | _, _, f, i, .nil z => ⟨fun _ => 0, f, fun b => (Nat.zero_add _).symm, .nil z⟩
  | _, _, f, 0, .no r => ⟨fun _ => 0, f, fun b => (Nat.zero_add _).symm, .no r⟩
  | _, _, f, i + 1, .no r => by
    obtain ⟨f1, f2, h1, h2⟩ := Sls.forget i r
    exact ⟨f1, f2, h1, .no h2⟩
  | _, _, _, 0, .yes (f := f1) (g := g1) r rs q => ⟨f1, g1, q, .no rs⟩
  | _, _, _, i + 1, .yes (f := f1) (g := g1) r rs q => by
    obtain ⟨a1, a2, h1, h2⟩ := Sls.forget i rs
    exact ⟨a1, fun b => f1 b + a2 b, fun b => by rw [q b, h1 b]; show _ = a1 b + (f1 b + a2 b); omega, .yes r h2 fun b => rfl⟩
/-- the slots' values may be any where nothing is known -/
theorem Sls.slot : ∀ {σ : L2.St} {e : List (Option D)} {f : Fp} {i : Nat} (o : Option V), Sls G Hs H σ e f → e[i]? = some none → Sls G Hs H (σ.set i o) e f
  | _, _, _, i, _, .nil _, h => by simp at h
  | _, _, _, 0, _, .no r, h => .no r
  | _, _, _, i + 1, o, .no r, h => .no (Sls.slot o r (by simpa using h))
  | _, _, _, 0, _, .yes r rs q, h => by simp at h
  | _, _, _, i + 1, o, .yes r rs q, h => .yes r (Sls.slot o rs (by simpa using h)) q
end

/-! ### the state: frozen part Hs, heap H, what is owned fe, what others hold P -/
def Lk : HO → Prop
  | .dK _ => True
  | .dT _ => True
  | _ => False
/-- what is frozen stands (a dict may be locked) -/
def Sm (Hs H : Hp) : Prop := ∀ a o, Hs a = some o → H a = some o ∨ (Lk o ∧ ∃ od, H a = some (.frz od o))
theorem Sm.rd {Hs H : Hp} {a : Addr} {o : HO} (s : Sm Hs H) (h : Hs a = some o) : Rd H a o := by
  rcases s a o h with h | ⟨_, od, h⟩
  · exact .inl h
  · exact .inr ⟨od, h⟩
theorem Sm.sqL {K : PySem.W.Frag} {Hs H : Hp} {a : Addr} {xs : List V} (s : Sm Hs H) (h : SqL K Hs a xs) : SqL K H a xs := by
  rcases h with (h | ⟨o, h⟩) | h
  · exact .inl (s.rd h)
  · rcases s _ _ h with h | ⟨z, _⟩
    · exact .inl (.inr ⟨o, h⟩)
    · exact z.elim
  · exact .inr h
theorem Sm.sqT {K : PySem.W.Frag} {Hs H : Hp} {a : Addr} {xs : List V} (s : Sm Hs H) (h : SqT K Hs a xs) : SqT K H a xs := by
  rcases h with (h | ⟨o, h⟩) | h
  · exact .inl (s.rd h)
  · rcases s _ _ h with h | ⟨z, _⟩
    · exact .inl (.inr ⟨o, h⟩)
    · exact z.elim
  · exact .inr h
theorem Sm.live {Hs H : Hp} {a : Addr} (s : Sm Hs H) (h : H a = none) : Hs a = none := by
  cases q : Hs a with
  | none => rfl
  | some o =>
    rcases s a o q with z | ⟨_, od, z⟩ <;> (rw [h] at z; cases z)

structure Wf (Hs H : Hp) (f : Fp) (P : Addr → Prop) : Prop where
  sm : Sm Hs H
  one : ∀ b, f b ≤ 1
  own : ∀ b, f b ≠ 0 → Hs b = none
  apart : ∀ b, P b → f b = 0
  live : ∀ b, P b → H b ≠ none
/-- behind a step: the frozen part has grown, what others hold is as it was -/
structure Aft (Hs H Hs' H' : Hp) (P : Addr → Prop) : Prop where
  sh : Same Hs Hs'
  keep : ∀ b, P b → H' b = H b ∧ Hs' b = Hs b
  mono : ∀ b, H' b = none → H b = none
theorem Aft.refl (Hs H : Hp) (P : Addr → Prop) : Aft Hs H Hs H P := ⟨Same.refl _, fun _ _ => ⟨rfl, rfl⟩, fun _ h => h⟩
theorem Aft.trans {Hs H Hs1 H1 Hs2 H2 : Hp} {P : Addr → Prop} (a : Aft Hs H Hs1 H1 P) (b : Aft Hs1 H1 Hs2 H2 P) : Aft Hs H Hs2 H2 P :=
  ⟨a.sh.trans b.sh, fun c hc => ⟨(b.keep c hc).1.trans (a.keep c hc).1, (b.keep c hc).2.trans (a.keep c hc).2⟩, fun c h => a.mono c (b.mono c h)⟩
theorem Aft.weak {Hs H Hs1 H1 : Hp} {P P' : Addr → Prop} (a : Aft Hs H Hs1 H1 P) (h : ∀ b, P' b → P b) : Aft Hs H Hs1 H1 P' := ⟨a.sh, fun b hb => a.keep b (h b hb), a.mono⟩

/-- the exception at hand: its class, its attributes -/
structure Exc where
  c : Str
  fn : List Str
  xs : List D
/-- an environment: the slots' data, the exception at hand -/
structure En where
  sl : List (Option D)
  ex : Option Exc := none
structure Cc extends Gc where
  pins : List (Nat × V)
  xa : Option (Addr × Value × Option Addr)
def ExD (G : Gc) (Hs H : Hp) (dd : Addr) (x : Exc) : Prop := ∃ vs, Hs dd = some (.xd (x.fn.zip vs)) ∧ x.fn.length = vs.length ∧ Rps G Hs H vs x.xs fun _ => 0
def ExOk (C : Cc) (Hs H : Hp) (o : Option Exc) : Prop := match o with
  | none => True
  | some x => ∃ a dd, C.xa = some (a, .ref (C.ca x.c), some dd) ∧ ExD C.toGc Hs H dd x
structure Ok (C : Cc) (Hs H : Hp) (σ : L2.St) (e : En) (fe fx : Fp) (P : Addr → Prop) : Prop where
  wf : Wf Hs H (fun b => fe b + fx b) P
  sl : Sls C.toGc Hs H σ e.sl fe
  pn : ∀ p ∈ C.pins, σ[p.1]? = some (some p.2)
  ex : ExOk C Hs H e.ex
abbrev f0 : Fp := fun _ => 0

theorem ExD.mono {G : Gc} {Hs H Hs' H' : Hp} {dd : Addr} {x : Exc} (s : Same Hs Hs') (h : ExD G Hs H dd x) : ExD G Hs' H' dd x := by
  obtain ⟨vs, h1, h2, h3⟩ := h
  exact ⟨vs, s _ _ h1, h2, h3.mono s fun b hb => absurd rfl hb⟩
theorem ExOk.mono {C : Cc} {Hs H Hs' H' : Hp} {o : Option Exc} (s : Same Hs Hs') (h : ExOk C Hs H o) : ExOk C Hs' H' o := by
  cases o with
  | none => trivial
  | some x =>
    obtain ⟨a, dd, h1, h2⟩ := h
    exact ⟨a, dd, h1, h2.mono s⟩
section
variable {C : Cc} {Hs H Hs' H' : Hp} {σ : L2.St} {e : En} {fe fx fv : Fp} {P : Addr → Prop}
theorem Ok.sm (o : Ok C Hs H σ e fe fx P) : Sm Hs H := o.wf.sm
theorem Ok.liveX (o : Ok C Hs H σ e fe fx P) {b : Addr} (h : H b = none) : fe b = 0 := by
  by_cases z : fe b = 0
  · exact z
  · exact absurd h (o.sl.live b z).1
/-- what is held at hand goes to the others -/
theorem Ok.hold {v : V} {d : D} (o : Ok C Hs H σ e fe fv P) (r : Rp C.toGc Hs H v d fv) : Ok C Hs H σ e fe f0 (fun b => P b ∨ fv b ≠ 0) :=
  ⟨⟨o.wf.sm, fun b => by have := o.wf.one b; simp only [f0] at *; omega, fun b hb => o.wf.own b (by simp only [f0] at *; omega), fun b hb => by
      rcases hb with hb | hb
      · have := o.wf.apart b hb; simp only [f0] at *; omega
      · have := o.wf.one b; simp only [f0] at *; omega, fun b hb => by
      rcases hb with hb | hb
      · exact o.wf.live b hb
      · exact (r.live b hb).1⟩, o.sl, o.pn, o.ex⟩
theorem Ok.holds {vs : List V} {ds : List D} (o : Ok C Hs H σ e fe fv P) (r : Rps C.toGc Hs H vs ds fv) : Ok C Hs H σ e fe f0 (fun b => P b ∨ fv b ≠ 0) :=
  ⟨⟨o.wf.sm, fun b => by have := o.wf.one b; simp only [f0] at *; omega, fun b hb => o.wf.own b (by simp only [f0] at *; omega), fun b hb => by
      rcases hb with hb | hb
      · have := o.wf.apart b hb; simp only [f0] at *; omega
      · have := o.wf.one b; simp only [f0] at *; omega, fun b hb => by
      rcases hb with hb | hb
      · exact o.wf.live b hb
      · exact (r.live b hb).1⟩, o.sl, o.pn, o.ex⟩
/-- and back: fv was held -/
theorem Ok.back (o : Ok C Hs' H' σ e fe fx (fun b => P b ∨ fv b ≠ 0)) (one : ∀ b, fv b ≤ 1) (ap : ∀ b, P b → fv b = 0) (ow : ∀ b, fv b ≠ 0 → Hs b = none) (aft : Aft Hs H Hs' H' (fun b => P b ∨ fv b ≠ 0)) : Ok C Hs' H' σ e fe (fun b => fv b + fx b) P :=
  ⟨⟨o.wf.sm, fun b => by
      by_cases z : fv b = 0
      · have := o.wf.one b; omega
      · have := o.wf.apart b (.inr z); have := one b; omega, fun b hb => by
      by_cases z : fv b = 0
      · exact o.wf.own b (by omega)
      · rw [(aft.keep b (.inr z)).2]; exact ow b z, fun b hb => by
      have := o.wf.apart b (.inl hb); have := ap b hb; omega, fun b hb => o.wf.live b (.inl hb)⟩, o.sl, o.pn, o.ex⟩
theorem Ok.fps {fe' fx' : Fp} (o : Ok C Hs H σ e fe fx P) (h : ∀ b, fe' b = fe b) (h2 : ∀ b, fx' b = fx b) : Ok C Hs H σ e fe' fx' P := by
  have e1 : fe' = fe := funext h
  have e2 : fx' = fx := funext h2
  subst e1 e2; exact o
/-- less is held -/
theorem Ok.less {fx' : Fp} (o : Ok C Hs H σ e fe fx P) (h : ∀ b, fx' b ≤ fx b) : Ok C Hs H σ e fe fx' P :=
  ⟨⟨o.wf.sm, fun b => by have := o.wf.one b; have := h b; omega, fun b hb => o.wf.own b (by have := h b; omega), fun b hb => by have := o.wf.apart b hb; have := h b; omega, o.wf.live⟩, o.sl, o.pn, o.ex⟩
/-- what is at hand is frozen -/
theorem Ok.fz (o : Ok C Hs H σ e fe (fun b => fv b + fx b) P) :
    ∃ Hs', Aft Hs H Hs' H P ∧ Ok C Hs' H σ e fe fx P ∧ ∀ b, Hs' b = (if fv b ≠ 0 then H b else Hs b) := by
  have s : Same Hs (fun b => if fv b ≠ 0 then H b else Hs b) := fun b u hb => by
    by_cases z : fv b = 0
    · show (if fv b ≠ 0 then H b else Hs b) = some u
      rw [if_neg (by omega)]; exact hb
    · have := o.wf.own b (by omega)
      rw [hb] at this; cases this
  refine ⟨fun b => if fv b ≠ 0 then H b else Hs b, ⟨s, fun b hb => ⟨rfl, ?_⟩, fun _ h => h⟩, ⟨⟨fun b u hb => ?_, fun b => by have := o.wf.one b; omega, fun b hb => ?_, fun b hb => by have := o.wf.apart b hb; omega, o.wf.live⟩, o.sl.mono s fun b hb => ⟨rfl, ?_⟩, o.pn, o.ex.mono s⟩, fun _ => rfl⟩
  · have := o.wf.apart b hb
    show (if fv b ≠ 0 then H b else Hs b) = Hs b
    rw [if_neg (by omega)]
  · by_cases z : fv b = 0
    · rw [if_neg (by omega)] at hb; exact o.wf.sm b u hb
    · rw [if_pos z] at hb; exact .inl hb
  · have := o.wf.one b
    rw [if_neg (by omega)]
    exact o.wf.own b (by omega)
  · have := o.wf.one b
    show (if fv b ≠ 0 then H b else Hs b) = none
    rw [if_neg (by omega)]
    exact o.wf.own b (by omega)
theorem Ok.freeze {v : V} {d : D} (o : Ok C Hs H σ e fe (fun b => fv b + fx b) P) (r : Rp C.toGc Hs H v d fv) :
    ∃ Hs', Aft Hs H Hs' H P ∧ Ok C Hs' H σ e fe fx P ∧ Rp C.toGc Hs' H v (frz d) f0 ∧ ∀ b, Hs' b = (if fv b ≠ 0 then H b else Hs b) := by
  obtain ⟨Hs', a, ok, he⟩ := o.fz
  exact ⟨Hs', a, ok, r.frz a.sh (fun _ => rfl) fun b hb => by rw [he b, if_pos hb], he⟩
theorem Ok.freezes {vs : List V} {ds : List D} (o : Ok C Hs H σ e fe fv P) (r : Rps C.toGc Hs H vs ds fv) :
    ∃ Hs', Aft Hs H Hs' H P ∧ Ok C Hs' H σ e fe f0 P ∧ Rps C.toGc Hs' H vs (frzs ds) f0 := by
  obtain ⟨Hs', a, ok, he⟩ := (o.fps (fe' := fe) (fx' := fun b => fv b + f0 b) (fun _ => rfl) fun _ => rfl).fz
  exact ⟨Hs', a, ok, r.frz a.sh (fun _ => rfl) fun b hb => by rw [he b, if_pos hb]⟩
end

/-! ### answers, canonical readings -/
inductive Rs (α : Type) where
  | bad
  | ok (a : α) (e : En)
  | exc (x : Exc) (e : En)
def Rs.bind {α β : Type} (r : Rs α) (k : α → En → Rs β) : Rs β := match r with
  | .bad => .bad
  | .ok a e => k a e
  | .exc x e => .exc x e
/-- an answer that may lack -/
def Rs.opt {α : Type} (o : Option α) (e : En) : Rs α := match o with
  | some z => .ok z e
  | none => .bad
inductive So where
  | bad | nx (e : En) | bk (e : En) | ct (e : En) | rt (d : D) (e : En) | exc (x : Exc) (e : En)

abbrev FE := En → Rs D
abbrev FT := En → Rs Bool
abbrev FS := En → So
/-- an argument: a value, or a slot that is handed on to be changed -/
inductive AV where
  | d (x : D) | io (i : Nat)
abbrev FA := En → Rs (List AV)
/-- arguments at hand -/
inductive Ra (G : Gc) (Hs H : Hp) (σ : L2.St) : List V → List AV → Fp → Prop
  | nil {f} (z : ∀ b, f b = 0) : Ra G Hs H σ [] [] f
  | d {v x f vs as g h} (r : Rp G Hs H v x f) (rs : Ra G Hs H σ vs as g) (e : ∀ b, h b = f b + g b) : Ra G Hs H σ (v :: vs) (.d x :: as) h
  | io {v i vs as g} (s : σ[i]? = some (some v)) (rs : Ra G Hs H σ vs as g) : Ra G Hs H σ (v :: vs) (.io i :: as) g

section
variable (C : Cc) (W : WX)
def XcK (Hs H : Hp) (P : Addr → Prop) (σ : L2.St) (x : Exc) (e' : En) : Prop :=
  ∀ dd Hs' H' fe', Aft Hs H Hs' H' P → Ok C Hs' H' σ e' fe' f0 P → ExD C.toGc Hs' H' dd x → W (.ref (C.ca x.c)) (some dd) σ H'
def EndE (r : Rs D) (Hs H : Hp) (P : Addr → Prop) (σ : L2.St) (Q : VK) : Prop := match r with
  | .bad => False
  | .ok d e' => ∀ v Hs' H' fe' fv, Aft Hs H Hs' H' P → Ok C Hs' H' σ e' fe' fv P → Rp C.toGc Hs' H' v d fv → Q v H'
  | .exc x e' => XcK C W Hs H P σ x e'
def EndT (r : Rs Bool) (Hs H : Hp) (P : Addr → Prop) (σ : L2.St) (Q : Bool → Hp → Prop) : Prop := match r with
  | .bad => False
  | .ok b e' => ∀ Hs' H' fe', Aft Hs H Hs' H' P → Ok C Hs' H' σ e' fe' f0 P → Q b H'
  | .exc x e' => XcK C W Hs H P σ x e'
def EndA (r : Rs (List AV)) (Hs H : Hp) (P : Addr → Prop) (σ : L2.St) (Q : List V → Hp → Prop) : Prop := match r with
  | .bad => False
  | .ok as e' => ∀ vs Hs' H' fe' fv, Aft Hs H Hs' H' P → Ok C Hs' H' σ e' fe' fv P → Ra C.toGc Hs' H' σ vs as fv → Q vs H'
  | .exc x e' => XcK C W Hs H P σ x e'
def EndS (r : So) (Hs H : Hp) (P : Addr → Prop) (N : Ends) : Prop := match r with
  | .bad => False
  | .nx e' => ∀ σ' Hs' H' fe', Aft Hs H Hs' H' P → Ok C Hs' H' σ' e' fe' f0 P → N.nx σ' H'
  | .bk e' => ∀ σ' Hs' H' fe', Aft Hs H Hs' H' P → Ok C Hs' H' σ' e' fe' f0 P → N.bk σ' H'
  | .ct e' => ∀ σ' Hs' H' fe', Aft Hs H Hs' H' P → Ok C Hs' H' σ' e' fe' f0 P → N.ct σ' H'
  | .rt d e' => ∀ v σ' Hs' H' fe' fv, Aft Hs H Hs' H' P → Ok C Hs' H' σ' e' fe' fv P → Rp C.toGc Hs' H' v d fv → N.rt v H'
  | .exc x e' => ∀ dd σ' Hs' H' fe', Aft Hs H Hs' H' P → Ok C Hs' H' σ' e' fe' f0 P → ExD C.toGc Hs' H' dd x → W (.ref (C.ca x.c)) (some dd) σ' H'
def canE (F : FE) : TE := fun σ H Q => ∃ e Hs fe P, Ok C Hs H σ e fe f0 P ∧ EndE C W (F e) Hs H P σ Q
def canT (F : FT) : TT := fun σ H Q => ∃ e Hs fe P, Ok C Hs H σ e fe f0 P ∧ EndT C W (F e) Hs H P σ Q
def canA (F : FA) : TA := fun σ H Q => ∃ e Hs fe P, Ok C Hs H σ e fe f0 P ∧ EndA C W (F e) Hs H P σ Q
def canS (F : FS) : TS := fun N σ H => ∃ e Hs fe P, Ok C Hs H σ e fe f0 P ∧ EndS C W (F e) Hs H P N
end

/-! ### judgements -/
def BE (X : Cx) (C : Cc) (W : WX) (e : Expr) (F : FE) : Prop := PE X e (canE C W F)
def BT (X : Cx) (C : Cc) (W : WX) (e : Expr) (F : FT) : Prop := PT X e (canT C W F)
def BA (X : Cx) (C : Cc) (W : WX) (es : List Expr) (F : FA) : Prop := PA X es (canA C W F)
def BS (X : Cx) (C : Cc) (W : WX) (s : Stmt) (F : FS) : Prop := PS X s (canS C W F)
def BSs (X : Cx) (C : Cc) (W : WX) (s : List Stmt) (F : FS) : Prop := PSs X s (canS C W F)
theorem _root_.L2.PE.imp {X : Cx} {e : Expr} {t t' : TE} (h : PE X e t) (i : ∀ σ H Q, t' σ H Q → t σ H Q) : PE X e t' := ⟨fun pins s σ H Q I q => h.run pins s σ H Q I (i _ _ _ q)⟩
theorem _root_.L2.PE.or {X : Cx} {e : Expr} {t t' : TE} (h : PE X e t) (h' : PE X e t') : PE X e (fun σ H Q => t σ H Q ∨ t' σ H Q) :=
  ⟨fun pins s σ H Q I q => q.elim (h.run pins s σ H Q I) (h'.run pins s σ H Q I)⟩
theorem _root_.L2.PT.imp {X : Cx} {e : Expr} {t t' : TT} (h : PT X e t) (i : ∀ σ H Q, t' σ H Q → t σ H Q) : PT X e t' := ⟨fun pins s σ H Q I q => h.run pins s σ H Q I (i _ _ _ q)⟩
theorem _root_.L2.PT.or {X : Cx} {e : Expr} {t t' : TT} (h : PT X e t) (h' : PT X e t') : PT X e (fun σ H Q => t σ H Q ∨ t' σ H Q) :=
  ⟨fun pins s σ H Q I q => q.elim (h.run pins s σ H Q I) (h'.run pins s σ H Q I)⟩
theorem _root_.L2.PW.imp {X : Cx} {e : Expr} {t t' : TT} (h : PW X e t) (i : ∀ σ H Q, t' σ H Q → t σ H Q) : PW X e t' := ⟨fun w pins s σ H Q I q => h.run w pins s σ H Q I (i _ _ _ q)⟩
theorem _root_.L2.PA.imp {X : Cx} {e : List Expr} {t t' : TA} (h : PA X e t) (i : ∀ σ H Q, t' σ H Q → t σ H Q) : PA X e t' := ⟨fun p pins s σ H Q I q => h.run p pins s σ H Q I (i _ _ _ q)⟩
theorem _root_.L2.PS.imp {X : Cx} {e : Stmt} {t t' : TS} (h : PS X e t) (i : ∀ D σ H, t' D σ H → t D σ H) : PS X e t' := ⟨fun pins s σ H D I q => h.run pins s σ H D I (i _ _ _ q)⟩
theorem _root_.L2.PS.or {X : Cx} {e : Stmt} {t t' : TS} (h : PS X e t) (h' : PS X e t') : PS X e (fun D σ H => t D σ H ∨ t' D σ H) :=
  ⟨fun pins s σ H D I q => q.elim (h.run pins s σ H D I) (h'.run pins s σ H D I)⟩
theorem _root_.L2.PSs.imp {X : Cx} {e : List Stmt} {t t' : TS} (h : PSs X e t) (i : ∀ D σ H, t' D σ H → t D σ H) : PSs X e t' := ⟨fun pins s σ H D I q => h.run pins s σ H D I (i _ _ _ q)⟩
end Bx

set_option Elab.async false
set_option linter.all false
set_option maxRecDepth 100000
set_option maxHeartbeats 1000000
/-! Rules of the data layer: steps in a row. -/
namespace Bx
open PySem L2

/-- what stands while others run -/
structure Held (R : Hp → Hp → Prop) (fv : Fp) (Hs H : Hp) : Prop where
  now : R Hs H
  stay : ∀ Hs' H', Same Hs Hs' → (∀ b, fv b ≠ 0 → H' b = H b ∧ Hs' b = none) → R Hs' H'
  live : ∀ b, fv b ≠ 0 → H b ≠ none
section
variable {G : Gc} {Hs H : Hp} {σ : L2.St} {fv : Fp}
theorem Held.tr : Held (fun _ _ => True) f0 Hs H := ⟨trivial, fun _ _ _ _ => trivial, fun _ h => absurd rfl h⟩
theorem Held.rp {v : V} {d : D} (r : Rp G Hs H v d fv) : Held (fun Hs H => Rp G Hs H v d fv) fv Hs H := ⟨r, fun _ _ s k => r.mono s k, fun b h => (r.live b h).1⟩
theorem Held.rps {v : List V} {d : List D} (r : Rps G Hs H v d fv) : Held (fun Hs H => Rps G Hs H v d fv) fv Hs H := ⟨r, fun _ _ s k => r.mono s k, fun b h => (r.live b h).1⟩
theorem Ra.mono {G : Gc} {Hs H Hs' H' : Hp} {σ : L2.St} (s : Same Hs Hs') : ∀ {vs : List V} {as : List AV} {f : Fp}, Ra G Hs H σ vs as f → (∀ b, f b ≠ 0 → H' b = H b ∧ Hs' b = none) → Ra G Hs' H' σ vs as f
  | _, _, _, .nil z, _ => .nil z
  | _, _, _, .d r rs e, k => .d (r.mono s fun b hb => k b (by rw [e b]; omega)) (Ra.mono s rs fun b hb => k b (by rw [e b]; omega)) e
  | _, _, _, .io h rs, k => .io h (Ra.mono s rs k)
theorem Ra.live {G : Gc} {Hs H : Hp} {σ : L2.St} : ∀ {vs : List V} {as : List AV} {f : Fp}, Ra G Hs H σ vs as f → ∀ b, f b ≠ 0 → H b ≠ none ∧ Hs b = none
  | _, _, _, .nil z, b, hb => absurd (z b) hb
  | _, _, _, .d (f := f1) r rs e, b, hb => by
    by_cases h1 : f1 b = 0
    · exact Ra.live rs b (by rw [e b, h1] at hb; simpa using hb)
    · exact r.live b h1
  | _, _, _, .io _ rs, b, hb => Ra.live rs b hb
theorem Held.ra {v : List V} {d : List AV} (r : Ra G Hs H σ v d fv) : Held (fun Hs H => Ra G Hs H σ v d fv) fv Hs H := ⟨r, fun _ _ s k => r.mono s k, fun b h => (r.live b h).1⟩
end

section
variable {C : Cc} {W : WX} {Hs H Hs' H' : Hp} {σ : L2.St} {e : En} {fe fx fv : Fp} {P : Addr → Prop}
theorem Ok.holdR {R : Hp → Hp → Prop} (o : Ok C Hs H σ e fe fv P) (r : Held R fv Hs H) : Ok C Hs H σ e fe f0 (fun b => P b ∨ fv b ≠ 0) :=
  ⟨⟨o.wf.sm, fun b => by have := o.wf.one b; simp only [f0] at *; omega, fun b hb => o.wf.own b (by simp only [f0] at *; omega), fun b hb => by
      rcases hb with hb | hb
      · have := o.wf.apart b hb; simp only [f0] at *; omega
      · have := o.wf.one b; simp only [f0] at *; omega, fun b hb => by
      rcases hb with hb | hb
      · exact o.wf.live b hb
      · exact r.live b hb⟩, o.sl, o.pn, o.ex⟩
theorem Held.on {R : Hp → Hp → Prop} (r : Held R fv Hs H) (o : Ok C Hs H σ e fe fv P) {Q : Addr → Prop} (a : Aft Hs H Hs' H' (fun b => Q b ∨ fv b ≠ 0)) : R Hs' H' := by
  refine r.stay Hs' H' a.sh fun b hb => ⟨(a.keep b (.inr hb)).1, ?_⟩
  rw [(a.keep b (.inr hb)).2]
  exact o.wf.own b (by omega)

theorem XcK.shift {x : Exc} {e' : En} (h : XcK C W Hs H P σ x e') (a : Aft Hs H Hs' H' P) : XcK C W Hs' H' P σ x e' :=
  fun dd H2s H2 fe' b ok ex => h dd H2s H2 fe' (a.trans b) ok ex
theorem XcK.unhold {x : Exc} {e' : En} (h : XcK C W Hs H P σ x e') {Q : Addr → Prop} (q : ∀ b, P b → Q b) : XcK C W Hs H Q σ x e' :=
  fun dd H2s H2 fe' b ok ex => h dd H2s H2 fe' (b.weak q) ⟨⟨ok.wf.sm, ok.wf.one, ok.wf.own, fun b hb => ok.wf.apart b (q b hb), fun b hb => ok.wf.live b (q b hb)⟩, ok.sl, ok.pn, ok.ex⟩ ex
theorem EndE.shift {r : Rs D} {Q : VK} (h : EndE C W r Hs H P σ Q) (a : Aft Hs H Hs' H' P) : EndE C W r Hs' H' P σ Q := by
  cases r with
  | bad => exact h
  | ok d e' => exact fun v H2s H2 fe' fv b ok r => h v H2s H2 fe' fv (a.trans b) ok r
  | exc x e' => exact XcK.shift h a
theorem EndT.shift {r : Rs Bool} {Q : Bool → Hp → Prop} (h : EndT C W r Hs H P σ Q) (a : Aft Hs H Hs' H' P) : EndT C W r Hs' H' P σ Q := by
  cases r with
  | bad => exact h
  | ok d e' => exact fun H2s H2 fe' b ok => h H2s H2 fe' (a.trans b) ok
  | exc x e' => exact XcK.shift h a
theorem EndA.shift {r : Rs (List AV)} {Q : List V → Hp → Prop} (h : EndA C W r Hs H P σ Q) (a : Aft Hs H Hs' H' P) : EndA C W r Hs' H' P σ Q := by
  cases r with
  | bad => exact h
  | ok d e' => exact fun v H2s H2 fe' fv b ok r => h v H2s H2 fe' fv (a.trans b) ok r
  | exc x e' => exact XcK.shift h a
theorem EndS.shift {r : So} {N : Ends} (h : EndS C W r Hs H P N) (a : Aft Hs H Hs' H' P) : EndS C W r Hs' H' P N := by
  cases r with
  | bad => exact h
  | nx e' => exact fun s H2s H2 fe' b ok => h s H2s H2 fe' (a.trans b) ok
  | bk e' => exact fun s H2s H2 fe' b ok => h s H2s H2 fe' (a.trans b) ok
  | ct e' => exact fun s H2s H2 fe' b ok => h s H2s H2 fe' (a.trans b) ok
  | rt d e' => exact fun v s H2s H2 fe' fv b ok r => h v s H2s H2 fe' fv (a.trans b) ok r
  | exc x e' => exact fun dd s H2s H2 fe' b ok ex => h dd s H2s H2 fe' (a.trans b) ok ex

/-- an answer that goes on to Z -/
def EndZ {α : Type} (C : Cc) (W : WX) (r : Rs α) (Hs H : Hp) (P : Addr → Prop) (σ : L2.St) (Z : α → En → Prop) : Prop := match r with
  | .bad => False
  | .ok d e' => Z d e'
  | .exc x e' => XcK C W Hs H P σ x e'
theorem EndE.bind {α : Type} {r : Rs α} {k : α → En → Rs D} {Q : VK} (h : EndE C W (r.bind k) Hs H P σ Q) : EndZ C W r Hs H P σ fun d e' => EndE C W (k d e') Hs H P σ Q := by
  cases r <;> exact h
theorem EndT.bind {α : Type} {r : Rs α} {k : α → En → Rs Bool} {Q : Bool → Hp → Prop} (h : EndT C W (r.bind k) Hs H P σ Q) : EndZ C W r Hs H P σ fun d e' => EndT C W (k d e') Hs H P σ Q := by
  cases r <;> exact h
theorem EndA.bind {α : Type} {r : Rs α} {k : α → En → Rs (List AV)} {Q : List V → Hp → Prop} (h : EndA C W (r.bind k) Hs H P σ Q) : EndZ C W r Hs H P σ fun d e' => EndA C W (k d e') Hs H P σ Q := by
  cases r <;> exact h
def Rs.toS {α : Type} (r : Rs α) (k : α → En → So) : So := match r with
  | .bad => .bad
  | .ok a e => k a e
  | .exc x e => .exc x e
theorem EndS.bind {α : Type} {r : Rs α} {k : α → En → So} {N : Ends} (h : EndS C W (r.toS k) Hs H P N) (σ : L2.St) : EndZ C W r Hs H P σ fun d e' => EndS C W (k d e') Hs H P N := by
  cases r with
  | bad => exact h
  | ok d e' => exact h
  | exc x e' => exact fun dd H2s H2 fe' b ok ex => h dd σ H2s H2 fe' b ok ex

/-- the next expression, R held -/
theorem bindE {R : Hp → Hp → Prop} {b : FE} {Z : D → En → Prop} {T : VK} (ok : Ok C Hs H σ e fe fv P) (hR : Held R fv Hs H) (h : EndZ C W (b e) Hs H P σ Z)
    (hk : ∀ d2 e2 v2 Hs2 H2 fe2 fv2, Aft Hs H Hs2 H2 (fun b => P b ∨ fv b ≠ 0) → Ok C Hs2 H2 σ e2 fe2 (fun b => fv b + fv2 b) P → R Hs2 H2 → Rp C.toGc Hs2 H2 v2 d2 fv2 → Z d2 e2 → T v2 H2) : canE C W b σ H T := by
  refine ⟨e, Hs, fe, _, ok.holdR hR, ?_⟩
  unfold EndZ at h
  unfold EndE
  generalize b e = re at h ⊢
  cases re with
  | bad => exact h
  | exc x e' => exact XcK.unhold h fun b hb => .inl hb
  | ok d e' =>
    intro v2 Hs2 H2 fe2 fv2 a ok2 r2
    exact hk d e' v2 Hs2 H2 fe2 fv2 a (ok2.back (fun b => by have := ok.wf.one b; omega) (fun b hb => by have := ok.wf.apart b hb; omega) (fun b hb => ok.wf.own b (by omega)) a) (hR.on ok a) r2 h
theorem bindT {R : Hp → Hp → Prop} {b : FT} {Z : Bool → En → Prop} {T : Bool → Hp → Prop} (ok : Ok C Hs H σ e fe fv P) (hR : Held R fv Hs H) (h : EndZ C W (b e) Hs H P σ Z)
    (hk : ∀ d2 e2 Hs2 H2 fe2, Aft Hs H Hs2 H2 (fun b => P b ∨ fv b ≠ 0) → Ok C Hs2 H2 σ e2 fe2 fv P → R Hs2 H2 → Z d2 e2 → T d2 H2) : canT C W b σ H T := by
  refine ⟨e, Hs, fe, _, ok.holdR hR, ?_⟩
  unfold EndZ at h
  unfold EndT
  generalize b e = re at h ⊢
  cases re with
  | bad => exact h
  | exc x e' => exact XcK.unhold h fun b hb => .inl hb
  | ok d e' =>
    intro Hs2 H2 fe2 a ok2
    exact hk d e' Hs2 H2 fe2 a ((ok2.back (fun b => by have := ok.wf.one b; omega) (fun b hb => by have := ok.wf.apart b hb; omega) (fun b hb => ok.wf.own b (by omega)) a).fps (fun _ => rfl) fun b => rfl) (hR.on ok a) h
theorem bindA {R : Hp → Hp → Prop} {b : FA} {Z : List AV → En → Prop} {T : List V → Hp → Prop} (ok : Ok C Hs H σ e fe fv P) (hR : Held R fv Hs H) (h : EndZ C W (b e) Hs H P σ Z)
    (hk : ∀ d2 e2 v2 Hs2 H2 fe2 fv2, Aft Hs H Hs2 H2 (fun b => P b ∨ fv b ≠ 0) → Ok C Hs2 H2 σ e2 fe2 (fun b => fv b + fv2 b) P → R Hs2 H2 → Ra C.toGc Hs2 H2 σ v2 d2 fv2 → Z d2 e2 → T v2 H2) : canA C W b σ H T := by
  refine ⟨e, Hs, fe, _, ok.holdR hR, ?_⟩
  unfold EndZ at h
  unfold EndA
  generalize b e = re at h ⊢
  cases re with
  | bad => exact h
  | exc x e' => exact XcK.unhold h fun b hb => .inl hb
  | ok d e' =>
    intro v2 Hs2 H2 fe2 fv2 a ok2 r2
    exact hk d e' v2 Hs2 H2 fe2 fv2 a (ok2.back (fun b => by have := ok.wf.one b; omega) (fun b hb => by have := ok.wf.apart b hb; omega) (fun b hb => ok.wf.own b (by omega)) a) (hR.on ok a) r2 h
/-- the first one: nothing is held -/
theorem firstE {b : FE} {Z : D → En → Prop} {T : VK} (ok : Ok C Hs H σ e fe f0 P) (h : EndZ C W (b e) Hs H P σ Z)
    (hk : ∀ d2 e2 v2 Hs2 H2 fe2 fv2, Aft Hs H Hs2 H2 P → Ok C Hs2 H2 σ e2 fe2 fv2 P → Rp C.toGc Hs2 H2 v2 d2 fv2 → Z d2 e2 → T v2 H2) : canE C W b σ H T :=
  bindE ok Held.tr h fun d2 e2 v2 Hs2 H2 fe2 fv2 a ok2 _ r2 z => hk d2 e2 v2 Hs2 H2 fe2 fv2 (a.weak fun b hb => .inl hb) (ok2.fps (fun _ => rfl) fun b => (Nat.zero_add _).symm) r2 z
theorem firstT {b : FT} {Z : Bool → En → Prop} {T : Bool → Hp → Prop} (ok : Ok C Hs H σ e fe f0 P) (h : EndZ C W (b e) Hs H P σ Z)
    (hk : ∀ d2 e2 Hs2 H2 fe2, Aft Hs H Hs2 H2 P → Ok C Hs2 H2 σ e2 fe2 f0 P → Z d2 e2 → T d2 H2) : canT C W b σ H T :=
  bindT ok Held.tr h fun d2 e2 Hs2 H2 fe2 a ok2 _ z => hk d2 e2 Hs2 H2 fe2 (a.weak fun b hb => .inl hb) ok2 z
theorem firstA {b : FA} {Z : List AV → En → Prop} {T : List V → Hp → Prop} (ok : Ok C Hs H σ e fe f0 P) (h : EndZ C W (b e) Hs H P σ Z)
    (hk : ∀ d2 e2 v2 Hs2 H2 fe2 fv2, Aft Hs H Hs2 H2 P → Ok C Hs2 H2 σ e2 fe2 fv2 P → Ra C.toGc Hs2 H2 σ v2 d2 fv2 → Z d2 e2 → T v2 H2) : canA C W b σ H T :=
  bindA ok Held.tr h fun d2 e2 v2 Hs2 H2 fe2 fv2 a ok2 _ r2 z => hk d2 e2 v2 Hs2 H2 fe2 fv2 (a.weak fun b hb => .inl hb) (ok2.fps (fun _ => rfl) fun b => (Nat.zero_add _).symm) r2 z

/-! ### new things -/
structure New (Hs H Hs' H' : Hp) (fv : Fp) : Prop where
  sh : Same Hs Hs'
  keep : ∀ b, H b ≠ none → H' b = H b ∧ Hs' b = Hs b
  mono : ∀ b, H' b = none → H b = none
  sm : Sm Hs' H'
  one : ∀ b, fv b ≤ 1
  own : ∀ b, fv b ≠ 0 → H b = none ∧ Hs' b = none
theorem New.refl (s : Sm Hs H) : New Hs H Hs H f0 := ⟨Same.refl _, fun _ _ => ⟨rfl, rfl⟩, fun _ h => h, s, fun _ => Nat.zero_le _, fun _ h => absurd rfl h⟩
theorem Ok.new (o : Ok C Hs H σ e fe fx P) (n : New Hs H Hs' H' fv) (hx : ∀ b, fx b ≠ 0 → H b ≠ none) : Ok C Hs' H' σ e fe (fun b => fx b + fv b) P := by
  have lv : ∀ b, fe b + fx b ≠ 0 → H b ≠ none := fun b hb => by
    by_cases z : fe b = 0
    · exact hx b (by omega)
    · exact (o.sl.live b z).1
  refine ⟨⟨n.sm, fun b => ?_, fun b hb => ?_, fun b hb => ?_, fun b hb z => o.wf.live b hb (n.mono b z)⟩, o.sl.mono n.sh fun b hb => ⟨(n.keep b (o.sl.live b hb).1).1, ?_⟩, o.pn, o.ex.mono n.sh⟩
  · have := o.wf.one b; have := n.one b
    by_cases z : fv b = 0
    · omega
    · have h1 := (n.own b z).1
      by_cases z2 : fe b + fx b = 0
      · omega
      · exact absurd h1 (lv b z2)
  · by_cases z2 : fe b + fx b = 0
    · exact (n.own b (by omega)).2
    · rw [(n.keep b (lv b z2)).2]; exact o.wf.own b z2
  · have h1 := o.wf.apart b hb
    by_cases z : fv b = 0
    · omega
    · exact absurd (n.own b z).1 (o.wf.live b hb)
  · rw [(n.keep b (o.sl.live b hb).1).2]; exact (o.sl.live b hb).2
theorem New.aft (o : Ok C Hs H σ e fe fx P) (n : New Hs H Hs' H' fv) : Aft Hs H Hs' H' P := ⟨n.sh, fun b hb => n.keep b (o.wf.live b hb), n.mono⟩
/-- a new object that is owned -/
theorem New.obj {p : Addr} {o : HO} (s : Sm Hs H) (hp : H p = none) : New Hs H Hs (upd H p o) (fun b => if b = p then 1 else 0) := by
  refine ⟨Same.refl _, fun b hb => ⟨upd_ne fun z => hb (z ▸ hp), rfl⟩, fun b hb => ?_, fun a u ha => ?_, fun b => by split <;> omega, fun b hb => ?_⟩
  · by_cases z : b = p
    · rw [z]; exact hp
    · rw [upd_ne z] at hb; exact hb
  · have z : a ≠ p := fun z => by
      have := s.live (z ▸ hp)
      rw [ha] at this; cases this
    rw [upd_ne z]; exact s a u ha
  · have z : b = p := by
      by_cases z : b = p
      · exact z
      · rw [if_neg z] at hb; exact absurd rfl hb
    rw [z]; exact ⟨hp, s.live hp⟩
/-- a new object that is frozen at once -/
theorem New.mkS {p : Addr} {o : HO} (s : Sm Hs H) (hp : H p = none) : New Hs H (upd Hs p o) (upd H p o) f0 := by
  have hs := s.live hp
  refine ⟨fun a u ha => ?_, fun b hb => ?_, fun b hb => ?_, fun a u ha => ?_, fun b => Nat.zero_le _, fun b hb => absurd rfl hb⟩
  · rw [upd_ne fun z => by rw [z, hs] at ha; cases ha]; exact ha
  · have z : b ≠ p := fun z => hb (z ▸ hp)
    exact ⟨upd_ne z, upd_ne z⟩
  · by_cases z : b = p
    · rw [z]; exact hp
    · rw [upd_ne z] at hb; exact hb
  · by_cases z : a = p
    · rw [z, upd_same] at ha
      rw [z, upd_same]; exact .inl ha
    · rw [upd_ne z] at ha
      rw [upd_ne z]; exact s a u ha
end

/-! ### operations on values -/
/-- r serves the operation g on frozen data -/
def OpS (G : Gc) (r : R2) (g : D → D → Option D) : Prop := ∀ {Hs H : Hp} {v1 v2 : V} {d1 d2 z : D} {Q : VK}, Sm Hs H → Rp G Hs H v1 d1 f0 → Rp G Hs H v2 d2 f0 → g d1 d2 = some z →
  (∀ v Hs' H' fv, New Hs H Hs' H' fv → Rp G Hs' H' v z fv → Q v H') → r v1 v2 H Q
def UnS (G : Gc) (r : V → Hp → VK → Prop) (g : D → Option D) : Prop := ∀ {Hs H : Hp} {v1 : V} {d1 z : D} {Q : VK}, Sm Hs H → Rp G Hs H v1 d1 f0 → g d1 = some z →
  (∀ v Hs' H' fv, New Hs H Hs' H' fv → Rp G Hs' H' v z fv → Q v H') → r v1 H Q
def CallS (G : Gc) (r : List V → Hp → VK → Prop) (g : List D → Option D) : Prop := ∀ {Hs H : Hp} {vs : List V} {ds : List D} {z : D} {Q : VK}, Sm Hs H → Rps G Hs H vs ds f0 → g ds = some z →
  (∀ v Hs' H' fv, New Hs H Hs' H' fv → Rp G Hs' H' v z fv → Q v H') → r vs H Q

def eC (d : D) : FE := fun e => .ok d e
def eN (i : Nat) : FE := fun e => match e.sl[i]? with
  | some (some d) => .ok (frz d) { e with sl := e.sl.set i (some (frz d)) }
  | _ => .bad
def eBin (g : D → D → Option D) (a b : FE) : FE := fun e => (a e).bind fun x e1 => (b e1).bind fun y e2 => .opt (g (frz x) (frz y)) e2
def eUn (g : D → Option D) (a : FE) : FE := fun e => (a e).bind fun x e1 => .opt (g (frz x)) e1
def tTst (a : FE) : FT := fun e => (a e).bind fun x e1 => match x with
  | .bl b => .ok b e1
  | _ => .bad
def tNt (a : FT) : FT := fun e => (a e).bind fun b e1 => .ok (!b) e1
def tAnd (a b : FT) : FT := fun e => (a e).bind fun k e1 => if k then b e1 else .ok false e1
def tOr (a b : FT) : FT := fun e => (a e).bind fun k e1 => if k then .ok true e1 else b e1
def eAnd (a b : FE) : FE := fun e => (a e).bind fun x e1 => match x with
  | .bl k => if k then b e1 else .ok (.bl false) e1
  | _ => .bad
def eOr (a b : FE) : FE := fun e => (a e).bind fun x e1 => match x with
  | .bl k => if k then .ok (.bl true) e1 else b e1
  | _ => .bad
def eNot (a : FE) : FE := fun e => (a e).bind fun x e1 => match x with
  | .bl k => .ok (.bl (!k)) e1
  | _ => .bad
def eIf (c : FT) (a b : FE) : FE := fun e => (c e).bind fun k e1 => if k then a e1 else b e1

section
variable {X : Cx} {C : Cc} {W : WX} {pos : Pos} {a b c : Expr} {Fa Fb Fc : FE} {Ta Tb Tc : FT}

/-- a value at hand is frozen -/
theorem Ok.frzX {Hs H : Hp} {σ : L2.St} {e : En} {fe fv fx : Fp} {P : Addr → Prop} {v : V} {d : D} (o : Ok C Hs H σ e fe (fun b => fv b + fx b) P) (r : Rp C.toGc Hs H v d fv)
    {R : Hp → Hp → Prop} (hR : Held R fx Hs H) : ∃ Hs', Aft Hs H Hs' H P ∧ Ok C Hs' H σ e fe fx P ∧ Rp C.toGc Hs' H v (frz d) f0 ∧ R Hs' H := by
  obtain ⟨Hs', a, ok, rp, he⟩ := o.freeze r
  refine ⟨Hs', a, ok, rp, hR.stay Hs' H a.sh fun b hb => ⟨rfl, ?_⟩⟩
  have := o.wf.one b
  rw [he b, if_neg (by omega)]
  exact o.wf.own b (by omega)
theorem be_c {d : D} {v : V} (h : PE X a (tC v)) (r : ∀ Hs H, Rp C.toGc Hs H v d f0) : BE X C W a (eC d) := h.imp fun σ H Q ⟨e, Hs, fe, P, ok, q⟩ =>
  q v Hs H fe f0 (Aft.refl _ _ _) ok (r Hs H)
theorem be_int {i j} : BE X C W (.Constant (.int i) j pos) (eC (.int i)) := be_c pe_int fun _ _ => .int fun _ => rfl
theorem be_bl {k j} : BE X C W (.Constant (.bool k) j pos) (eC (.bl k)) := be_c pe_bl fun _ _ => .bl fun _ => rfl
theorem be_non {j} : BE X C W (.Constant .none j pos) (eC .non) := be_c pe_non fun _ _ => .non fun _ => rfl
theorem be_str {x j} : BE X C W (.Constant (.str x) j pos) (eC (.str x)) := be_c pe_str fun _ _ => .str fun _ => rfl
theorem be_name {i : Nat} (h : PE X a (tVar i)) : BE X C W a (eN i) := h.imp fun σ H Q ⟨e, Hs, fe, P, ok, q⟩ => by
  unfold EndE eN at q
  cases h1 : e.sl[i]? with
  | none => rw [h1] at q; exact q.elim
  | some o =>
    cases o with
    | none => rw [h1] at q; exact q.elim
    | some d =>
      rw [h1] at q
      obtain ⟨v, f1, f2, e1, r1, e2, s2⟩ := ok.sl.get h1
      have ok1 : Ok C Hs H σ { e with sl := e.sl.set i none } f2 (fun b => f1 b + f0 b) P := ⟨⟨ok.wf.sm, fun b => by have := ok.wf.one b; have := e2 b; simp only [f0] at *; omega, fun b hb => ok.wf.own b (by have := e2 b; simp only [f0] at *; omega),
        fun b hb => by have := ok.wf.apart b hb; have := e2 b; simp only [f0] at *; omega, ok.wf.live⟩, s2, ok.pn, ok.ex⟩
      obtain ⟨Hs', a', ok2, r2, _⟩ := ok1.frzX r1 Held.tr
      have hi : i < e.sl.length := (List.getElem?_eq_some_iff.mp h1).1
      have s3 : Sls C.toGc Hs' H (σ.set i (some v)) ((e.sl.set i none).set i (some (frz d))) f2 := ok2.sl.put (g := f0) (by rw [List.getElem?_set_self hi]) r2 fun b => (Nat.zero_add _).symm
      rw [List.set_set] at s3
      have e4 : σ.set i (some v) = σ := by
        obtain ⟨hl, hv⟩ := List.getElem?_eq_some_iff.mp e1
        rw [← hv]; exact List.set_getElem_self hl
      rw [e4] at s3
      exact ⟨v, e1, q v Hs' H f2 f0 a' ⟨ok2.wf, s3, ok2.pn, ok2.ex⟩ r2⟩

theorem be_bin {op : Operator} {r : R2} {g : D → D → Option D} (ho : OpR X (binaryOp op) r) (hs : OpS C.toGc r g) (ha : BE X C W a Fa) (hb : BE X C W b Fb) : BE X C W (.BinOp a op b pos) (eBin g Fa Fb) :=
  (pe_op ho ha hb).imp fun σ H Q ⟨e, Hs, fe, P, ok, q⟩ => by
    refine firstE ok q.bind fun d1 e1 v1 Hs1 H1 fe1 fv1 a1 ok1 r1 q1 => ?_
    refine bindE ok1 (.rp r1) (q1.shift a1).bind fun d2 e2 v2 Hs2 H2 fe2 fv2 a2 ok2 r1 r2 q2 => ?_
    obtain ⟨Hs3, a3, ok3, r1', r2'⟩ := ok2.frzX r1 (.rp r2)
    obtain ⟨Hs4, a4, ok4, r2'', r1''⟩ := (ok3.fps (fun _ => rfl) (fx' := fun b => fv2 b + f0 b) fun _ => rfl).frzX r2' (.rp r1')
    have q3 := (q2.shift (a2.weak fun b hb => .inl hb)).shift (a3.trans a4)
    cases hz : g (frz d1) (frz d2) with
    | none => rw [hz] at q3; exact q3.elim
    | some z =>
      rw [hz] at q3
      exact hs ok4.sm r1'' r2'' hz fun v Hs5 H5 fv n rz => q3 v Hs5 H5 fe2 fv (n.aft ok4) ((ok4.new n fun _ h => absurd rfl h).fps (fun _ => rfl) fun _ => (Nat.zero_add _).symm) rz
theorem be_cmp {op : CmpOp} {r : R2} {g : D → D → Option D} (ho : OpR X (compareOp op) r) (hs : OpS C.toGc r g) (hm : behindInMarks op b = false) (ha : BE X C W a Fa) (hb : BE X C W b Fb) : BE X C W (.Compare a [op] [b] pos) (eBin g Fa Fb) :=
  (pe_cmpR ho ha hb hm).imp fun σ H Q ⟨e, Hs, fe, P, ok, q⟩ => by
    refine firstE ok q.bind fun d1 e1 v1 Hs1 H1 fe1 fv1 a1 ok1 r1 q1 => ?_
    refine bindE ok1 (.rp r1) (q1.shift a1).bind fun d2 e2 v2 Hs2 H2 fe2 fv2 a2 ok2 r1 r2 q2 => ?_
    obtain ⟨Hs3, a3, ok3, r1', r2'⟩ := ok2.frzX r1 (.rp r2)
    obtain ⟨Hs4, a4, ok4, r2'', r1''⟩ := (ok3.fps (fun _ => rfl) (fx' := fun b => fv2 b + f0 b) fun _ => rfl).frzX r2' (.rp r1')
    have q3 := (q2.shift (a2.weak fun b hb => .inl hb)).shift (a3.trans a4)
    cases hz : g (frz d1) (frz d2) with
    | none => rw [hz] at q3; exact q3.elim
    | some z =>
      rw [hz] at q3
      exact hs ok4.sm r1'' r2'' hz fun v Hs5 H5 fv n rz => q3 v Hs5 H5 fe2 fv (n.aft ok4) ((ok4.new n fun _ h => absurd rfl h).fps (fun _ => rfl) fun _ => (Nat.zero_add _).symm) rz
theorem be_un {op : UnaryOp} {r : V → Hp → VK → Prop} {g : D → Option D} (ho : UnR X (unaryOp op) r) (hs : UnS C.toGc r g) (ha : BE X C W a Fa) : BE X C W (.UnaryOp op a pos) (eUn g Fa) :=
  (pe_un ho ha).imp fun σ H Q ⟨e, Hs, fe, P, ok, q⟩ => by
    refine firstE ok q.bind fun d1 e1 v1 Hs1 H1 fe1 fv1 a1 ok1 r1 q1 => ?_
    obtain ⟨Hs3, a3, ok3, r1', _⟩ := (ok1.fps (fun _ => rfl) (fx' := fun b => fv1 b + f0 b) fun _ => rfl).frzX r1 Held.tr
    have q3 := (q1.shift a1).shift a3
    cases hz : g (frz d1) with
    | none => rw [hz] at q3; exact q3.elim
    | some z =>
      rw [hz] at q3
      exact hs ok3.sm r1' hz fun v Hs5 H5 fv n rz => q3 v Hs5 H5 fe1 fv (n.aft ok3) ((ok3.new n fun _ h => absurd rfl h).fps (fun _ => rfl) fun _ => (Nat.zero_add _).symm) rz
/-- a test by an expression that gives a bool -/
theorem Rp.isBl {G : Gc} {Hs H : Hp} {v : V} {k : Bool} {f : Fp} (r : Rp G Hs H v (.bl k) f) : v = .bl k ∧ ∀ b, f b = 0 := by
  cases r with | bl z => exact ⟨rfl, z⟩
theorem bt_of {Z : TT} (hz : PT X a Z) (hi : ∀ σ H Q, (canE C W Fa σ H fun x H1 => ∃ k, x = .bl k ∧ Q k H1) → Z σ H Q) : BT X C W a (tTst Fa) := hz.imp fun σ H Q ⟨e, Hs, fe, P, ok, q⟩ => by
  refine hi σ H Q (firstE ok q.bind fun d1 e1 v1 Hs1 H1 fe1 fv1 a1 ok1 r1 q1 => ?_)
  cases d1 with
  | bl k =>
    obtain ⟨rfl, z⟩ := r1.isBl
    exact ⟨k, rfl, q1 Hs1 H1 fe1 a1 (ok1.fps (fun _ => rfl) fun b => (z b).symm)⟩
  | _ => exact q1.elim
theorem bt_cmp {op : CmpOp} {r : R2} {g : D → D → Option D} (ho : OpR X (compareOp op) r) (hs : OpS C.toGc r g) (hm : behindInMarks op b = false) (ha : BE X C W a Fa) (hb : BE X C W b Fb) : BT X C W (.Compare a [op] [b] pos) (tTst (eBin g Fa Fb)) := by
  refine bt_of (pt_cmpR ho ha hb hm) fun σ H Q h => ?_
  obtain ⟨e, Hs, fe, P, ok, q⟩ := h
  refine firstE ok q.bind fun d1 e1 v1 Hs1 H1 fe1 fv1 a1 ok1 r1 q1 => ?_
  refine bindE ok1 (.rp r1) (q1.shift a1).bind fun d2 e2 v2 Hs2 H2 fe2 fv2 a2 ok2 r1 r2 q2 => ?_
  obtain ⟨Hs3, a3, ok3, r1', r2'⟩ := ok2.frzX r1 (.rp r2)
  obtain ⟨Hs4, a4, ok4, r2'', r1''⟩ := (ok3.fps (fun _ => rfl) (fx' := fun b => fv2 b + f0 b) fun _ => rfl).frzX r2' (.rp r1')
  have q3 := (q2.shift (a2.weak fun b hb => .inl hb)).shift (a3.trans a4)
  cases hz : g (frz d1) (frz d2) with
  | none => rw [hz] at q3; exact q3.elim
  | some z =>
    rw [hz] at q3
    exact hs ok4.sm r1'' r2'' hz fun v Hs5 H5 fv n rz => q3 v Hs5 H5 fe2 fv (n.aft ok4) ((ok4.new n fun _ h => absurd rfl h).fps (fun _ => rfl) fun _ => (Nat.zero_add _).symm) rz
theorem bt_val (h : BE X C W a Fa) (he : ∀ whole, isTrue a X.env whole = (do let v ← whole; standAt a.pos; holding [v] (truthy v))) : BT X C W a (tTst Fa) :=
  bt_of (pt_val h he) fun σ H Q h => h
theorem bt_not (ha : BT X C W a Ta) : BT X C W (.UnaryOp .Not a pos) (tNt Ta) := (pt_not ha).imp fun σ H Q ⟨e, Hs, fe, P, ok, q⟩ => by
  refine firstT ok q.bind fun d1 e1 Hs1 H1 fe1 a1 ok1 q1 => ?_
  exact q1 Hs1 H1 fe1 a1 ok1
def BW (X : Cx) (C : Cc) (W : WX) (e : Expr) (F : FT) : Prop := PW X e (canT C W F)
theorem bt_w (h : BW X C W a Ta) : BT X C W a Ta := L2.PW.pt h
theorem bw_and1 (ha : BT X C W a Ta) : BW X C W (.BoolOp .And [a] pos) Ta := pw_and1 ha
theorem bw_or1 (ha : BT X C W a Ta) : BW X C W (.BoolOp .Or [a] pos) Ta := pw_or1 ha
theorem bw_and {rest : List Expr} (ha : BT X C W a Ta) (hb : BW X C W (.BoolOp .And (b :: rest) pos) Tb) : BW X C W (.BoolOp .And (a :: b :: rest) pos) (tAnd Ta Tb) := (pw_and ha hb).imp fun σ H Q ⟨e, Hs, fe, P, ok, q⟩ => by
  refine firstT ok q.bind fun d1 e1 Hs1 H1 fe1 a1 ok1 q1 => ?_
  cases d1 with
  | true => exact iteT ⟨e1, Hs1, fe1, P, ok1, q1.shift a1⟩
  | false => exact iteF (q1 Hs1 H1 fe1 a1 ok1)
theorem bw_or {rest : List Expr} (ha : BT X C W a Ta) (hb : BW X C W (.BoolOp .Or (b :: rest) pos) Tb) : BW X C W (.BoolOp .Or (a :: b :: rest) pos) (tOr Ta Tb) := (pw_or ha hb).imp fun σ H Q ⟨e, Hs, fe, P, ok, q⟩ => by
  refine firstT ok q.bind fun d1 e1 Hs1 H1 fe1 a1 ok1 q1 => ?_
  cases d1 with
  | false => exact iteF ⟨e1, Hs1, fe1, P, ok1, q1.shift a1⟩
  | true => exact iteT (q1 Hs1 H1 fe1 a1 ok1)
theorem be_one {op} (h : BE X C W a Fa) : BE X C W (.BoolOp op [a] pos) Fa := pe_one h
theorem be_and {rest : List Expr} (ha : BE X C W a Fa) (hb : BE X C W (.BoolOp .And (b :: rest) pos) Fb) : BE X C W (.BoolOp .And (a :: b :: rest) pos) (eAnd Fa Fb) := (pe_and ha hb).imp fun σ H Q ⟨e, Hs, fe, P, ok, q⟩ => by
  refine firstE ok q.bind fun d1 e1 v1 Hs1 H1 fe1 fv1 a1 ok1 r1 q1 => ?_
  cases d1 with
  | bl k =>
    obtain ⟨rfl, z⟩ := r1.isBl
    have ok2 := ok1.fps (fe' := fe1) (fx' := f0) (fun _ => rfl) fun b => (z b).symm
    refine ⟨k, rfl, ?_⟩
    cases k with
    | true => exact iteT ⟨e1, Hs1, fe1, P, ok2, q1.shift a1⟩
    | false => exact iteF (q1 _ Hs1 H1 fe1 f0 a1 ok2 (.bl fun _ => rfl))
  | _ => exact q1.elim
theorem be_or {rest : List Expr} (ha : BE X C W a Fa) (hb : BE X C W (.BoolOp .Or (b :: rest) pos) Fb) : BE X C W (.BoolOp .Or (a :: b :: rest) pos) (eOr Fa Fb) := (pe_or ha hb).imp fun σ H Q ⟨e, Hs, fe, P, ok, q⟩ => by
  refine firstE ok q.bind fun d1 e1 v1 Hs1 H1 fe1 fv1 a1 ok1 r1 q1 => ?_
  cases d1 with
  | bl k =>
    obtain ⟨rfl, z⟩ := r1.isBl
    have ok2 := ok1.fps (fe' := fe1) (fx' := f0) (fun _ => rfl) fun b => (z b).symm
    refine ⟨k, rfl, ?_⟩
    cases k with
    | false => exact iteF ⟨e1, Hs1, fe1, P, ok2, q1.shift a1⟩
    | true => exact iteT (q1 _ Hs1 H1 fe1 f0 a1 ok2 (.bl fun _ => rfl))
  | _ => exact q1.elim
theorem be_not (ha : BE X C W a Fa) : BE X C W (.UnaryOp .Not a pos) (eNot Fa) := (pe_not ha).imp fun σ H Q ⟨e, Hs, fe, P, ok, q⟩ => by
  refine firstE ok q.bind fun d1 e1 v1 Hs1 H1 fe1 fv1 a1 ok1 r1 q1 => ?_
  cases d1 with
  | bl k =>
    obtain ⟨rfl, z⟩ := r1.isBl
    have ok2 := ok1.fps (fe' := fe1) (fx' := f0) (fun _ => rfl) fun b => (z b).symm
    exact ⟨k, rfl, q1 _ Hs1 H1 fe1 f0 a1 ok2 (.bl fun _ => rfl)⟩
  | _ => exact q1.elim
theorem be_if (hc : BT X C W c Tc) (ha : BE X C W a Fa) (hb : BE X C W b Fb) : BE X C W (.IfExp c a b pos) (eIf Tc Fa Fb) := (pe_ifExp hc ha hb).imp fun σ H Q ⟨e, Hs, fe, P, ok, q⟩ => by
  refine firstT ok q.bind fun d1 e1 Hs1 H1 fe1 a1 ok1 q1 => ?_
  cases d1 with
  | true => exact iteT ⟨e1, Hs1, fe1, P, ok1, q1.shift a1⟩
  | false => exact iteF ⟨e1, Hs1, fe1, P, ok1, q1.shift a1⟩
end
end Bx

set_option Elab.async false
set_option linter.all false
set_option maxRecDepth 100000
set_option maxHeartbeats 1000000
/-! Operations on data. -/
namespace Bx
open PySem L2

/-- a list's or a tuple's items -/
def D.seq : D → Option (Bool × List D)
  | .nd .lst _ xs => some (true, xs)
  | .nd .wl _ xs => some (true, xs)
  | .nd .tup _ xs => some (false, xs)
  | .nd .wt _ xs => some (false, xs)
  | _ => none
def lim : Nat := 16000000
theorem lim_le {n : Nat} (h : n ≤ lim) : n ≤ sizeLine := Nat.le_trans h (by rw [sizeLine_eq]; decide)
theorem lim_lt {n : Nat} (h : n ≤ lim) : n < sizeLine := Nat.lt_of_le_of_lt h (by rw [sizeLine_eq]; decide)
section
variable {G : Gc} {Hs H : Hp} {v : V} {d : D} {f : Fp}
theorem sm_lst {a : Addr} {vs : List V} (s : Sm Hs H) (h : Hs a = some (.lst vs)) : H a = some (.lst vs) := by
  rcases s _ _ h with h | ⟨z, _⟩
  · exact h
  · exact z.elim
theorem sm_tup {a : Addr} {vs : List V} (s : Sm Hs H) (h : Hs a = some (.tup vs)) : H a = some (.tup vs) := by
  rcases s _ _ h with h | ⟨z, _⟩
  · exact h
  · exact z.elim
theorem sm_ins {a C dx : Addr} {fs : List (Str × V)} (s : Sm Hs H) (h : Hs a = some (.ins C dx fs)) : H a = some (.ins C dx fs) := by
  rcases s _ _ h with h | ⟨z, _⟩
  · exact h
  · exact z.elim
/-- how a node stands in the heap itself -/
def AtR (G : Gc) (Hs H : Hp) (a : Addr) (k : Kd) (vs : List V) (o : Bool) : Prop := At G H a k vs ∨ (At G Hs a k vs ∧ Hs a ≠ none ∧ o = false) ∨ (k.ow = false ∧ At G H a k vs)
theorem AtR.sh {a : Addr} {k : Kd} {vs : List V} (s : Sm Hs H) (h : At G Hs a k vs) : AtR G Hs H a k vs false := by
  cases k with
  | lst => exact .inl (sm_lst s h)
  | tup => exact .inl (sm_tup s h)
  | wl => exact .inl (s.sqL h)
  | wt => exact .inl (s.sqT h)
  | dk ks => exact .inr (.inl ⟨h, (fun z => by rw [h.2] at z; cases z), rfl⟩)
  | dt ks => exact .inr (.inl ⟨h, (fun z => by rw [h.2] at z; cases z), rfl⟩)
  | ins c fn => obtain ⟨h1, dx, h2⟩ := h; exact .inl ⟨h1, dx, sm_ins s h2⟩
theorem Rp.nd {k : Kd} {o : Bool} {xs : List D} (s : Sm Hs H) (r : Rp G Hs H v (.nd k o xs) f) :
    ∃ a vs g, v = .ref a ∧ Rps G Hs H vs xs g ∧ (∀ b, g b ≤ f b) ∧ AtR G Hs H a k vs o := by
  cases r with
  | @sh a _ vs _ _ h r z => exact ⟨a, vs, f, rfl, r, fun b => Nat.le_refl _, .sh s h⟩
  | @own a _ vs _ g _ h w n r e => exact ⟨a, vs, g, rfl, r, fun b => by rw [e b]; omega, .inl h⟩
theorem Rp.seq {b : Bool} {xs : List D} (s : Sm Hs H) (r : Rp G Hs H v d f) (h : d.seq = some (b, xs)) :
    ∃ a vs g, v = .ref a ∧ (b = true → SqL G.K H a vs) ∧ (b = false → SqT G.K H a vs) ∧ Rps G Hs H vs xs g ∧ ∀ b, g b ≤ f b := by
  cases d with
  | nd k o ys =>
    obtain ⟨a, vs, g, e, rs, le, at_⟩ := r.nd s
    cases k with
    | lst =>
      cases h
      have hh : H a = some (.lst vs) := by
        rcases at_ with h | ⟨h, _⟩ | ⟨h, _⟩
        · exact h
        · exact sm_lst s h
        · cases h
      exact ⟨a, vs, g, e, fun _ => SqL.of hh, (fun z => nomatch z), rs, le⟩
    | wl =>
      cases h
      have hh : SqL G.K H a vs := by
        rcases at_ with h | ⟨h, _⟩ | ⟨_, h⟩
        · exact h
        · exact s.sqL h
        · exact h
      exact ⟨a, vs, g, e, fun _ => hh, (fun z => nomatch z), rs, le⟩
    | tup =>
      cases h
      have hh : H a = some (.tup vs) := by
        rcases at_ with h | ⟨h, _⟩ | ⟨h, _⟩
        · exact h
        · exact sm_tup s h
        · cases h
      exact ⟨a, vs, g, e, (fun z => nomatch z), fun _ => SqT.of hh, rs, le⟩
    | wt =>
      cases h
      have hh : SqT G.K H a vs := by
        rcases at_ with h | ⟨h, _⟩ | ⟨_, h⟩
        · exact h
        · exact s.sqT h
        · exact h
      exact ⟨a, vs, g, e, (fun z => nomatch z), fun _ => hh, rs, le⟩
    | _ => cases h
  | _ => cases h
theorem Rp.lst {o : Bool} {xs : List D} (s : Sm Hs H) (r : Rp G Hs H v (.nd .lst o xs) f) : ∃ a vs g, v = .ref a ∧ H a = some (.lst vs) ∧ Rps G Hs H vs xs g ∧ ∀ b, g b ≤ f b := by
  obtain ⟨a, vs, g, e, rs, le, at_⟩ := r.nd s
  refine ⟨a, vs, g, e, ?_, rs, le⟩
  rcases at_ with h | ⟨h, _⟩ | ⟨h, _⟩
  · exact h
  · exact sm_lst s h
  · cases h
theorem Rp.toI {i : Int} (r : Rp G Hs H v (.int i) f) : v = .int i := by cases r; rfl
theorem Rp.toS {x : Str} (r : Rp G Hs H v (.str x) f) : v = .str x := by cases r; rfl
theorem Rp.toB {k : Bool} (r : Rp G Hs H v (.bl k) f) : v = .bl k := by cases r; rfl
theorem Rp.toN (r : Rp G Hs H v .non f) : v = .non := by cases r; rfl
theorem Rp.toT {n : String} (r : Rp G Hs H v (.ty n) f) : v = .ty n := by cases r; rfl
/-- a scalar -/
def D.sc : D → Bool
  | .nd _ _ _ => false
  | _ => true
theorem Rp.f0 (r : Rp G Hs H v d f) (h : d.sc = true) : Rp G Hs H v d f0 := by
  cases r with
  | non z => exact .non fun _ => rfl
  | bl z => exact .bl fun _ => rfl
  | int z => exact .int fun _ => rfl
  | str z => exact .str fun _ => rfl
  | ty z => exact .ty fun _ => rfl
  | sh _ _ _ => cases h
  | own _ _ _ _ _ => cases h
theorem r_int (i : Int) : Rp G Hs H (.int i) (.int i) Bx.f0 := .int fun _ => rfl
theorem r_bl (i : Bool) : Rp G Hs H (.bl i) (.bl i) Bx.f0 := .bl fun _ => rfl
theorem r_str (i : Str) : Rp G Hs H (.str i) (.str i) Bx.f0 := .str fun _ => rfl
theorem r_non : Rp G Hs H .non .non Bx.f0 := .non fun _ => rfl
theorem Rps.at {vs : List V} {ds : List D} {i : Nat} {d : D} (r : Rps G Hs H vs ds Bx.f0) (h : ds[i]? = some d) : ∃ v, vs[i]? = some v ∧ Rp G Hs H v d Bx.f0 := by
  obtain ⟨v, f1, f2, h1, h2, h3, _⟩ := r.get h
  exact ⟨v, h1, h2.fp fun b => by have := h3 b; simp only [Bx.f0] at *; omega⟩
theorem Rps.z {vs : List V} {ds : List D} {g : Fp} (r : Rps G Hs H vs ds g) (h : ∀ b, g b ≤ Bx.f0 b) : Rps G Hs H vs ds Bx.f0 := r.fp fun b => by have := h b; simp only [Bx.f0] at *; omega
theorem Rps.ints : ∀ {vs : List V} {ns : List Int} {g : Fp}, Rps G Hs H vs (ns.map D.int) g → vs = ns.map V.int
  | _, [], _, .nil _ => rfl
  | _, n :: ns, _, .cons r rs _ => by rw [r.toI, Rps.ints rs]; rfl
theorem Rps.bls : ∀ {vs : List V} {ns : List Bool} {g : Fp}, Rps G Hs H vs (ns.map D.bl) g → vs = ns.map V.bl
  | _, [], _, .nil _ => rfl
  | _, n :: ns, _, .cons r rs _ => by rw [r.toB, Rps.bls rs]; rfl
theorem newLst {p : Addr} {vs : List V} {xs : List D} {g : Fp} (s : Sm Hs H) (hp : H p = none) (r : Rps G Hs H vs xs g) (hg : ∀ b, g b ≠ 0 → b ≠ p) : Rp G Hs (upd H p (.lst vs)) (.ref p) (.nd .lst true xs) (fun b => g b + if b = p then 1 else 0) :=
  .own upd_same rfl (s.live hp) (r.mono (Same.refl _) fun b hb => ⟨upd_ne (hg b hb), (r.live b hb).2⟩) fun b => rfl
theorem newTup {p : Addr} {vs : List V} {xs : List D} (s : Sm Hs H) (hp : H p = none) (r : Rps G Hs H vs xs Bx.f0) : Rp G (upd Hs p (.tup vs)) (upd H p (.tup vs)) (.ref p) (.nd .tup false xs) Bx.f0 :=
  .sh upd_same (r.mono (New.mkS (o := .tup vs) s hp).sh fun b hb => absurd rfl hb) fun _ => rfl
end

/-! ### two-place operations -/
def addD : D → D → Option D
  | .int i, .int j => some (.int (i + j))
  | .str x, .str y => if x.length + y.length ≤ lim then some (.str (x ++ y)) else none
  | .nd .lst _ xs, .nd .lst _ ys => if xs.length + ys.length ≤ lim then some (.nd .lst true (xs ++ ys)) else none
  | .nd .tup _ xs, .nd .tup _ ys => if xs.length + ys.length ≤ lim ∧ xs ≠ [] ∧ ys ≠ [] then some (.nd .tup false (xs ++ ys)) else none
  | _, _ => none
def subD : D → D → Option D
  | .int i, .int j => some (.int (i - j))
  | _, _ => none
def mulOk (i j : Int) : Bool := decide (i.natAbs.log2 + j.natAbs.log2 < 1000000)
def mulD : D → D → Option D
  | .int i, .int j => if mulOk i j then some (.int (i * j)) else none
  | _, _ => none
def divD : D → D → Option D
  | .int i, .int j => if decide (0 < j) && decide (j.natAbs.log2 < 9000) then some (.int (i / j)) else none
  | _, _ => none
def modD : D → D → Option D
  | .int i, .int j => if decide (0 < j) then some (.int (i % j)) else none
  | _, _ => none
def powD : D → D → Option D
  | .int i, .int j => if decide (0 ≤ j) && decide (j ≤ 1000000) && decide (i.natAbs < 2 ^ 64) then some (.int (i ^ j.toNat)) else none
  | _, _ => none
def negD : D → Option D
  | .int i => some (.int (-i))
  | _ => none
def ltD : D → D → Option D
  | .int i, .int j => some (.bl (decide (i < j)))
  | _, _ => none
def leD : D → D → Option D
  | .int i, .int j => some (.bl (decide (i ≤ j)))
  | _, _ => none
def gtD : D → D → Option D
  | .int i, .int j => some (.bl (decide (j < i)))
  | _, _ => none
def geD : D → D → Option D
  | .int i, .int j => some (.bl (decide (j ≤ i)))
  | _, _ => none
def isD : D → D → Option D
  | .non, .non => some (.bl true)
  | .nd _ _ _, .non => some (.bl false)
  | .int _, .non => some (.bl false)
  | .str _, .non => some (.bl false)
  | .bl _, .non => some (.bl false)
  | _, _ => none
def isntD (a b : D) : Option D := match isD a b with
  | some (.bl k) => some (.bl (!k))
  | _ => none
mutual
def pyd : D → PyData
  | .non => .none | .bl b => .bool b | .int i => .int i | .str x => .str x | .ty _ => .dict []
  | .nd k _ xs => match k with
    | .lst => .list (pyds xs) | .wl => .list (pyds xs) | .tup => .tuple (pyds xs) | .wt => .tuple (pyds xs) | _ => .dict []
def pyds : List D → List PyData
  | [] => []
  | x :: xs => pyd x :: pyds xs
end
mutual
/-- data that == may look through -/
def eqOk : D → Bool
  | .ty _ => false
  | .nd k _ xs => (match k with
    | .lst => true | .wl => true | .tup => true | .wt => true | _ => false) && eqOks xs
  | _ => true
def eqOks : List D → Bool
  | [] => true
  | x :: xs => eqOk x && eqOks xs
end
def eqD (a b : D) : Option D := if eqOk a && eqOk b && SeqAt.shaped (pyd a) && SeqAt.shaped (pyd b) then some (.bl (PyData.eqv (pyd a) (pyd b))) else none
def neD (a b : D) : Option D := if eqOk a && eqOk b && SeqAt.shaped (pyd a) && SeqAt.shaped (pyd b) then some (.bl (!PyData.eqv (pyd a) (pyd b))) else none
def flatD : D → Bool
  | .nd _ _ _ => false
  | .ty _ => false
  | _ => true
def eqF : D → D → Bool
  | .non, .non => true
  | .bl a, .bl b => a == b
  | .bl a, .int b => (if a then 1 else 0) == b
  | .int a, .bl b => a == (if b then 1 else 0)
  | .int a, .int b => a == b
  | .str a, .str b => a == b
  | _, _ => false
/-- x in xs, xs a list or tuple of flat things; a text in a text -/
def inD (a b : D) : Option D := match b with
  | .str y => match a with
    | .str x => some (.bl (!(Builtin.Str.occurrences y x 0 y.length 1).isEmpty))
    | _ => none
  | _ => match b.seq with
    | some (_, xs) => if flatD a && xs.all flatD then some (.bl (xs.any fun y => eqF y a)) else none
    | none => none
def notInD (a b : D) : Option D := match inD a b with
  | some (.bl k) => some (.bl (!k))
  | _ => none

theorem OpR.or {X : Cx} {f : Value → Value → Sem Value} {r r' : R2} (h : OpR X f r) (h' : OpR X f r') : OpR X f (fun x y H Q => r x y H Q ∨ r' x y H Q) :=
  fun pins s σ H x y v u Q I rx ry q => q.elim (h pins s σ H x y v u Q I rx ry) (h' pins s σ H x y v u Q I rx ry)
theorem OpS.l {G : Gc} {r r' : R2} {g : D → D → Option D} (h : OpS G r g) : OpS G (fun x y H Q => r x y H Q ∨ r' x y H Q) g := fun s r1 r2 hz q => .inl (h s r1 r2 hz q)
section
variable {G : Gc}
/-- a scalar answer, the heap as it was -/
theorem res0 {Hs H : Hp} {Q : VK} {z : D} {v : V} (s : Sm Hs H) (q : ∀ v Hs' H' fv, New Hs H Hs' H' fv → Rp G Hs' H' v z fv → Q v H') (r : Rp G Hs H v z f0) : Q v H := q v Hs H f0 (New.refl s) r
theorem resLst {Hs H : Hp} {Q : VK} {vs : List V} {xs : List D} {p : Addr} (s : Sm Hs H) (q : ∀ v Hs' H' fv, New Hs H Hs' H' fv → Rp G Hs' H' v (.nd .lst true xs) fv → Q v H') (r : Rps G Hs H vs xs f0) (hp : H p = none) : Q (.ref p) (upd H p (.lst vs)) :=
  q _ _ _ _ (New.obj s hp) ((newLst s hp r fun b hb => absurd rfl hb).fp fun b => (Nat.zero_add _).symm)
theorem resTup {Hs H : Hp} {Q : VK} {vs : List V} {xs : List D} {p : Addr} (s : Sm Hs H) (q : ∀ v Hs' H' fv, New Hs H Hs' H' fv → Rp G Hs' H' v (.nd .tup false xs) fv → Q v H') (r : Rps G Hs H vs xs f0) (hp : H p = none) : Q (.ref p) (upd H p (.tup vs)) :=
  q _ _ _ _ (New.mkS s hp) (newTup s hp r)

def rAddStr : R2 := fun x y H Q => ∃ i j, x = V.str i ∧ y = V.str j ∧ i.length + j.length ≤ sizeLine ∧ Q (V.str (i ++ j)) H
def rAddA (K : PySem.W.Frag) : R2 := fun x y H Q => rI0 (fun i j => .int (i + j)) x y H Q ∨ (rAddStr x y H Q ∨ (rCat x y H Q ∨ rCatT K x y H Q))
theorem op_addA {X : Cx} : OpR X (binaryOp .Add) (rAddA X.K) := op_add.or (OpR.or op_add_str (OpR.or op_cat op_catT))
theorem iop_addA {X : Cx} : OpR X (inplaceOp .Add) (rI0 fun i j => .int (i + j)) := iop_add
theorem addS : OpS G (rAddA G.K) addD := by
  intro Hs H v1 v2 d1 d2 z Q s r1 r2 hz q
  unfold addD at hz
  split at hz
  · cases hz
    rw [r1.toI, r2.toI]
    exact .inl ⟨_, _, rfl, rfl, res0 s q (r_int _)⟩
  · split at hz
    · cases hz
      rename_i h
      rw [r1.toS, r2.toS]
      exact .inr (.inl ⟨_, _, rfl, rfl, lim_le h, res0 s q (r_str _)⟩)
    · cases hz
  · split at hz
    · cases hz
      rename_i h
      obtain ⟨a, vs, g, rfl, ha, rs, le⟩ := r1.lst s
      obtain ⟨b, ws, g', rfl, hb, rs', le'⟩ := r2.lst s
      refine .inr (.inr (.inl ⟨a, b, vs, ws, rfl, rfl, ha, hb, by rw [rs.len, rs'.len]; exact lim_le h, fun p hp => resLst s q ((rs.z le).app (rs'.z le') fun _ => rfl) hp⟩))
    · cases hz
  · split at hz
    · cases hz
      rename_i h
      obtain ⟨a, vs, g, rfl, _, ha, rs, le⟩ := r1.seq s rfl
      obtain ⟨b, ws, g', rfl, _, hb, rs', le'⟩ := r2.seq s rfl
      refine .inr (.inr (.inr ⟨a, b, vs, ws, rfl, rfl, ha rfl, hb rfl, fun z => h.2.1 (List.eq_nil_of_length_eq_zero (by rw [← rs.len, z]; rfl)), by rw [rs.len, rs'.len]; exact lim_le h.1,
        fun z => absurd (List.eq_nil_of_length_eq_zero (by rw [← rs'.len, z]; rfl)) h.2.2, fun _ p hp => resTup s q ((rs.z le).app (rs'.z le') fun _ => rfl) hp⟩))
    · cases hz
  · cases hz
theorem subS : OpS G (rI0 fun i j => .int (i - j)) subD := by
  intro Hs H v1 v2 d1 d2 z Q s r1 r2 hz q
  unfold subD at hz
  split at hz
  · cases hz
    rw [r1.toI, r2.toI]
    exact ⟨_, _, rfl, rfl, res0 s q (r_int _)⟩
  · cases hz
theorem mulS : OpS G (rI CMulW fun i j => .int (i * j)) mulD := by
  intro Hs H v1 v2 d1 d2 z Q s r1 r2 hz q
  unfold mulD at hz
  split at hz
  · split at hz
    · cases hz
      rename_i h
      rw [r1.toI, r2.toI]
      exact ⟨_, _, rfl, rfl, of_decide_eq_true (p := _ < 1000000) h, res0 s q (r_int _)⟩
    · cases hz
  · cases hz
theorem divS : OpS G (rI CDivW fun i j => .int (i / j)) divD := by
  intro Hs H v1 v2 d1 d2 z Q s r1 r2 hz q
  unfold divD at hz
  split at hz
  · split at hz
    · cases hz
      rename_i h
      rw [r1.toI, r2.toI]
      rw [Bool.and_eq_true] at h
      exact ⟨_, _, rfl, rfl, ⟨of_decide_eq_true h.1, of_decide_eq_true h.2⟩, res0 s q (r_int _)⟩
    · cases hz
  · cases hz
theorem modS : OpS G (rI (fun _ j => 0 < j) fun i j => .int (i % j)) modD := by
  intro Hs H v1 v2 d1 d2 z Q s r1 r2 hz q
  unfold modD at hz
  split at hz
  · split at hz
    · cases hz
      rename_i h
      rw [r1.toI, r2.toI]
      exact ⟨_, _, rfl, rfl, of_decide_eq_true h, res0 s q (r_int _)⟩
    · cases hz
  · cases hz
theorem powS : OpS G (rI CPow fun i j => .int (i ^ j.toNat)) powD := by
  intro Hs H v1 v2 d1 d2 z Q s r1 r2 hz q
  unfold powD at hz
  split at hz
  · split at hz
    · cases hz
      rename_i h
      rw [r1.toI, r2.toI]
      rw [Bool.and_eq_true, Bool.and_eq_true] at h
      exact ⟨_, _, rfl, rfl, ⟨of_decide_eq_true h.1.1, of_decide_eq_true h.1.2, of_decide_eq_true h.2⟩, res0 s q (r_int _)⟩
    · cases hz
  · cases hz
theorem negS : UnS G (rU fun i => .int (-i)) negD := by
  intro Hs H v1 d1 z Q s r1 hz q
  unfold negD at hz
  split at hz
  · cases hz
    rw [r1.toI]
    exact ⟨_, rfl, res0 s q (r_int _)⟩
  · cases hz
theorem ltS : OpS G (rI0 fun i j => .bl (decide (i < j))) ltD := by
  intro Hs H v1 v2 d1 d2 z Q s r1 r2 hz q
  unfold ltD at hz
  split at hz
  · cases hz
    rw [r1.toI, r2.toI]
    exact ⟨_, _, rfl, rfl, res0 s q (r_bl _)⟩
  · cases hz
theorem leS : OpS G (rI0 fun i j => .bl (decide (i ≤ j))) leD := by
  intro Hs H v1 v2 d1 d2 z Q s r1 r2 hz q
  unfold leD at hz
  split at hz
  · cases hz
    rw [r1.toI, r2.toI]
    exact ⟨_, _, rfl, rfl, res0 s q (r_bl _)⟩
  · cases hz
theorem gtS : OpS G (rI0 fun i j => .bl (decide (j < i))) gtD := by
  intro Hs H v1 v2 d1 d2 z Q s r1 r2 hz q
  unfold gtD at hz
  split at hz
  · cases hz
    rw [r1.toI, r2.toI]
    exact ⟨_, _, rfl, rfl, res0 s q (r_bl _)⟩
  · cases hz
theorem geS : OpS G (rI0 fun i j => .bl (decide (j ≤ i))) geD := by
  intro Hs H v1 v2 d1 d2 z Q s r1 r2 hz q
  unfold geD at hz
  split at hz
  · cases hz
    rw [r1.toI, r2.toI]
    exact ⟨_, _, rfl, rfl, res0 s q (r_bl _)⟩
  · cases hz
def isNonD : D → Bool
  | .non => true
  | _ => false
theorem isD_non {a b : D} {z : D} (h : isD a b = some z) : b = .non ∧ z = .bl (isNonD a) := by
  unfold isD at h
  split at h <;> cases h <;> exact ⟨rfl, rfl⟩
theorem Rp.isNon {Hs H : Hp} {v : V} {a : D} {f : Fp} (r : Rp G Hs H v a f) : decide (v = .non) = isNonD a := by
  cases r <;> rfl
theorem isS : OpS G (fun x y H Q => y = V.non ∧ Q (V.bl (decide (x = V.non))) H) isD := by
  intro Hs H v1 v2 d1 d2 z Q s r1 r2 hz q
  obtain ⟨rfl, rfl⟩ := isD_non hz
  refine ⟨r2.toN, ?_⟩
  rw [r1.isNon]
  exact res0 s q (r_bl _)
theorem isntS : OpS G (fun x y H Q => y = V.non ∧ Q (V.bl (!decide (x = V.non))) H) isntD := by
  intro Hs H v1 v2 d1 d2 z Q s r1 r2 hz q
  unfold isntD at hz
  split at hz
  · rename_i k he
    cases hz
    obtain ⟨rfl, hk⟩ := isD_non he
    refine ⟨r2.toN, ?_⟩
    rw [r1.isNon, ← D.bl.inj hk]
    exact res0 s q (r_bl _)
  · cases hz
mutual
theorem Rp.dp {Hs H : Hp} (s : Sm Hs H) {v : V} {d : D} {f : Fp} : Rp G Hs H v d f → eqOk d = true → Dp G.K H v (pyd d)
  | .non _, _ => .non
  | .bl _, _ => .bl _
  | .int _, _ => .int _
  | .str _, _ => .str _
  | .ty _, h => by cases h
  | .sh (a := a) (k := k) (vs := vs) h r z, e => by
    unfold eqOk at e
    rw [Bool.and_eq_true] at e
    have rs := Rps.dp s r e.2
    cases k with
    | lst => exact .lst (SqL.of (sm_lst s h)) rs
    | wl => exact .lst (s.sqL h) rs
    | tup => exact .tup (SqT.of (sm_tup s h)) rs
    | wt => exact .tup (s.sqT h) rs
    | _ => cases e.1
  | .own (a := a) (k := k) (vs := vs) h w n r q, e => by
    unfold eqOk at e
    rw [Bool.and_eq_true] at e
    have rs := Rps.dp s r e.2
    cases k with
    | lst => exact .lst (SqL.of h) rs
    | wl => exact .lst h rs
    | tup => exact .tup (SqT.of h) rs
    | wt => exact .tup h rs
    | _ => cases e.1
theorem Rps.dp {Hs H : Hp} (s : Sm Hs H) {vs : List V} {ds : List D} {f : Fp} : Rps G Hs H vs ds f → eqOks ds = true → DpAll G.K H vs (pyds ds)
  | .nil _, _ => .nil
  | .cons r rs _, e => by
    unfold eqOks at e
    rw [Bool.and_eq_true] at e
    exact .cons (Rp.dp s r e.1) (Rps.dp s rs e.2)
end
theorem eqS : OpS G (rEqD G.K) eqD := by
  intro Hs H v1 v2 d1 d2 z Q s r1 r2 hz q
  unfold eqD at hz
  split at hz
  · rename_i h
    cases hz
    simp only [Bool.and_eq_true] at h
    exact ⟨_, _, r1.dp s h.1.1.1, r2.dp s h.1.1.2, h.1.2, h.2, res0 s q (r_bl _)⟩
  · cases hz
theorem neS : OpS G (rNeD G.K) neD := by
  intro Hs H v1 v2 d1 d2 z Q s r1 r2 hz q
  unfold neD at hz
  split at hz
  · rename_i h
    cases hz
    simp only [Bool.and_eq_true] at h
    exact ⟨_, _, r1.dp s h.1.1.1, r2.dp s h.1.1.2, h.1.2, h.2, res0 s q (r_bl _)⟩
  · cases hz
theorem Rp.flat {Hs H : Hp} {v : V} {d : D} {f : Fp} (r : Rp G Hs H v d f) (h : flatD d = true) : flatV v = true := by
  cases r <;> first | rfl | cases h
theorem Rps.flats {Hs H : Hp} : ∀ {vs : List V} {ds : List D} {f : Fp}, Rps G Hs H vs ds f → ds.all flatD = true → vs.all flatV = true
  | _, _, _, .nil _, _ => rfl
  | _, _, _, .cons r rs _, h => by
    rw [List.all_cons, Bool.and_eq_true] at h ⊢
    exact ⟨r.flat h.1, rs.flats h.2⟩
theorem Rp.eqf {Hs H : Hp} {v w : V} {d e : D} {f g : Fp} (r : Rp G Hs H v d f) (r2 : Rp G Hs H w e g) : eqV v w = eqF d e := by
  cases r <;> cases r2 <;> rfl
theorem Rps.inv {Hs H : Hp} {w : V} {e : D} {g : Fp} (r2 : Rp G Hs H w e g) : ∀ {vs : List V} {ds : List D} {f : Fp}, Rps G Hs H vs ds f → inV w vs = ds.any fun y => eqF y e
  | _, _, _, .nil _ => rfl
  | _, _, _, .cons r rs _ => by
    have ih := Rps.inv r2 rs
    unfold inV at ih ⊢
    rw [List.any_cons, List.any_cons, r.eqf r2, ih]
def rInS (neg : Bool) : R2 := fun x y H Q => ∃ i j, x = V.str i ∧ y = V.str j ∧ Q (V.bl (match neg with | true => !!(Builtin.Str.occurrences j i 0 j.length 1).isEmpty | false => !(Builtin.Str.occurrences j i 0 j.length 1).isEmpty)) H
def rInA (K : PySem.W.Frag) (neg : Bool) : R2 := fun x y H Q => rIn K neg x y H Q ∨ rInS neg x y H Q
theorem inS0 {Hs H : Hp} {v1 v2 : V} {d1 d2 z : D} {Q : VK} {neg : Bool} (s : Sm Hs H) {f1 f2 : Fp} (r1 : Rp G Hs H v1 d1 f1) (r2 : Rp G Hs H v2 d2 f2) (hz : inD d1 d2 = some z) (q : ∀ k, z = .bl k → Q (.bl (if neg then !k else k)) H) : rInA G.K neg v1 v2 H Q := by
  unfold inD at hz
  split at hz
  · split at hz
    · cases hz
      rw [r1.toS, r2.toS]
      refine .inr ⟨_, _, rfl, rfl, ?_⟩
      have := q _ rfl
      cases neg
      · exact this
      · simpa using this
    · cases hz
  · split at hz
    · rename_i b xs hs
      split at hz
      · rename_i h
        cases hz
        rw [Bool.and_eq_true] at h
        obtain ⟨a, vs, g, rfl, h1, h2, rs, _⟩ := r2.seq s hs
        refine .inl ⟨a, vs, rfl, ?_, r1.flat h.1, rs.flats h.2, ?_⟩
        · cases b
          · exact .inr (h2 rfl)
          · exact .inl (h1 rfl)
        · rw [rs.inv r1]
          exact q _ rfl
      · cases hz
    · cases hz
theorem inS : OpS G (rInA G.K false) inD := by
  intro Hs H v1 v2 d1 d2 z Q s r1 r2 hz q
  refine inS0 s r1 r2 hz fun k hk => ?_
  subst hk
  exact res0 s q (r_bl _)
theorem notInS : OpS G (rInA G.K true) notInD := by
  intro Hs H v1 v2 d1 d2 z Q s r1 r2 hz q
  unfold notInD at hz
  split at hz
  · rename_i k he
    cases hz
    refine inS0 s r1 r2 he fun k' hk => ?_
    cases hk
    exact res0 s q (r_bl _)
  · cases hz
end
theorem op_inA {X : Cx} : OpR X (compareOp .In) (rInA X.K false) := op_in_seq.or op_in_str
theorem op_notInA {X : Cx} : OpR X (compareOp .NotIn) (rInA X.K true) := op_notIn_seq.or op_notIn_str
end Bx

set_option Elab.async false
set_option linter.all false
set_option maxRecDepth 100000
set_option maxHeartbeats 1000000
/-! Arguments, calls of built-ins, displays, subscripts, slices. -/
namespace Bx
open PySem L2

def aNil : FA := fun e => .ok [] e
def aCons (a : FE) (r : FA) : FA := fun e => (a e).bind fun x e1 => (r e1).bind fun xs e2 => .ok (.d x :: xs) e2
def aIo (i : Nat) (r : FA) : FA := fun e => match e.sl[i]? with
  | some (some _) => (r e).bind fun xs e2 => .ok (.io i :: xs) e2
  | _ => .bad
/-- the data of arguments, looked at -/
def av (e : En) : AV → Option D
  | .d x => some x
  | .io i => (e.sl[i]?).getD none
def avs (e : En) : List AV → Option (List D)
  | [] => some []
  | a :: as => match av e a, avs e as with
    | some d, some ds => some (d :: ds)
    | _, _ => none
/-- the data of arguments, none of them a slot -/
def dvs : List AV → Option (List D)
  | [] => some []
  | .d x :: as => match dvs as with
    | some ds => some (x :: ds)
    | none => none
  | .io _ :: _ => none
/-- looked at: each stands somewhere -/
inductive Rpb (G : Gc) (Hs H : Hp) : List V → List D → Prop
  | nil : Rpb G Hs H [] []
  | cons {v d f vs ds} (r : Rp G Hs H v d f) (rs : Rpb G Hs H vs ds) : Rpb G Hs H (v :: vs) (d :: ds)
def CallB (G : Gc) (r : List V → Hp → VK → Prop) (g : List D → Option D) : Prop := ∀ {Hs H : Hp} {vs : List V} {ds : List D} {z : D} {Q : VK}, Sm Hs H → Rpb G Hs H vs ds → g ds = some z →
  (∀ v, Rp G Hs H v z f0 → Q v H) → r vs H Q
def eCallB (g : List D → Option D) (as : FA) : FE := fun e => (as e).bind fun as e1 => .opt ((avs e1 as).bind g) e1
def eCallF (g : List D → Option D) (as : FA) : FE := fun e => (as e).bind fun as e1 => .opt ((dvs as).bind fun ds => g (frzs ds)) e1
def eTup (as : FA) : FE := eCallF (fun ds => if ds.length ≤ lim then some (.nd .tup false ds) else none) as
def eLst (as : FA) : FE := fun e => (as e).bind fun as e1 => .opt ((dvs as).bind fun ds => if ds.length ≤ lim then some (.nd .lst true ds) else none) e1

theorem frzs_len : ∀ xs : List D, (frzs xs).length = xs.length
  | [] => rfl
  | x :: xs => by unfold frzs; rw [List.length_cons, List.length_cons, frzs_len xs]

section
variable {G : Gc} {Hs H : Hp} {σ : L2.St}
theorem Ra.look {e : En} {fe : Fp} (s : Sls G Hs H σ e.sl fe) : ∀ {vs : List V} {as : List AV} {ds : List D} {f : Fp}, Ra G Hs H σ vs as f → avs e as = some ds → Rpb G Hs H vs ds
  | _, _, _, _, .nil _, h => by cases h; exact .nil
  | _, _, ds, _, .d (x := x) (as := as) r rs _, h => by
    unfold avs at h
    simp only [av] at h
    cases h2 : avs e as with
    | none => rw [h2] at h; cases h
    | some ds' => rw [h2] at h; cases h; exact .cons r (Ra.look s rs h2)
  | _, _, ds, _, .io (v := v) (i := i) (as := as) hs rs, h => by
    unfold avs at h
    simp only [av] at h
    cases h1 : e.sl[i]? with
    | none => rw [h1] at h; cases h
    | some o =>
      cases o with
      | none => rw [h1] at h; cases h
      | some d =>
        rw [h1] at h
        cases h2 : avs e as with
        | none => rw [h2] at h; cases h
        | some ds' =>
          rw [h2] at h; cases h
          obtain ⟨w, f1, f2, e1, r1, _⟩ := s.get h1
          rw [hs] at e1; cases e1
          exact .cons r1 (Ra.look s rs h2)
theorem Ra.vals : ∀ {vs : List V} {as : List AV} {ds : List D} {f : Fp}, Ra G Hs H σ vs as f → dvs as = some ds → Rps G Hs H vs ds f
  | _, _, _, _, .nil z, h => by cases h; exact .nil z
  | _, _, ds, _, .d (x := x) (as := as) r rs e, h => by
    unfold dvs at h
    cases h2 : dvs as with
    | none => rw [h2] at h; cases h
    | some ds' => rw [h2] at h; cases h; exact .cons r (Ra.vals rs h2) e
  | _, _, ds, _, .io _ _, h => by unfold dvs at h; cases h
theorem Rps.rpb : ∀ {vs : List V} {ds : List D} {f : Fp}, Rps G Hs H vs ds f → Rpb G Hs H vs ds
  | _, _, _, .nil _ => .nil
  | _, _, _, .cons r rs _ => .cons r rs.rpb
end

section
variable {X : Cx} {C : Cc} {W : WX} {pos : Pos} {a b c : Expr} {es : List Expr} {Fa Fb Fc : FE} {As : FA}
theorem ba_nil : BA X C W [] aNil := pa_nil.imp fun σ H Q ⟨e, Hs, fe, P, ok, q⟩ => q [] Hs H fe f0 (Aft.refl _ _ _) ok (.nil fun _ => rfl)
theorem ba_cons (ha : BE X C W a Fa) (hs : BA X C W es As) (hst : starEach (a :: es) X.env = (false, eval a X.env) :: starEach es X.env) : BA X C W (a :: es) (aCons Fa As) :=
  (pa_cons ha hs hst).imp fun σ H Q ⟨e, Hs, fe, P, ok, q⟩ => by
    refine firstE ok q.bind fun d1 e1 v1 Hs1 H1 fe1 fv1 a1 ok1 r1 q1 => ?_
    refine bindA ok1 (.rp r1) (q1.shift a1).bind fun d2 e2 v2 Hs2 H2 fe2 fv2 a2 ok2 r1 r2 q2 => ?_
    exact q2 _ Hs2 H2 fe2 _ (a2.weak fun b hb => .inl hb) ok2 (.d r1 r2 fun _ => rfl)
theorem ba_io {i : Nat} (ha : PE X a (tVar i)) (hs : BA X C W es As) (hst : starEach (a :: es) X.env = (false, eval a X.env) :: starEach es X.env) : BA X C W (a :: es) (aIo i As) :=
  (pa_cons ha hs hst).imp fun σ H Q ⟨e, Hs, fe, P, ok, q⟩ => by
    unfold aIo at q
    cases h1 : e.sl[i]? with
    | none => rw [h1] at q; exact q.elim
    | some o =>
      cases o with
      | none => rw [h1] at q; exact q.elim
      | some d =>
        rw [h1] at q
        obtain ⟨v, f1, f2, e1, _⟩ := ok.sl.get h1
        refine ⟨v, e1, ?_⟩
        refine firstA ok (EndA.bind q) fun d2 e2 v2 Hs2 H2 fe2 fv2 a2 ok2 r2 q2 => ?_
        exact q2 _ Hs2 H2 fe2 fv2 a2 ok2 (.io e1 r2)

/-- a call of a built-in that only looks, and answers a scalar -/
theorem be_callB {e : Expr} {r : List V → Hp → VK → Prop} {g : List D → Option D} (hp : ∀ t, PA X es t → PE X e (tCB r t)) (hg : CallB C.toGc r g) (ha : BA X C W es As) : BE X C W e (eCallB g As) :=
  (hp _ ha).imp fun σ H Q ⟨e, Hs, fe, P, ok, q⟩ => by
    refine firstA ok q.bind fun as e1 vs Hs1 H1 fe1 fv1 a1 ok1 r1 q1 => ?_
    cases h : (avs e1 as).bind g with
    | none => rw [h] at q1; exact q1.elim
    | some z =>
      rw [h] at q1
      obtain ⟨ds, h1, h2⟩ := Option.bind_eq_some_iff.mp h
      exact hg ok1.sm (r1.look ok1.sl h1) h2 fun v rz => q1 v Hs1 H1 fe1 f0 a1 (ok1.less fun _ => Nat.zero_le _) rz
theorem be_callF {e : Expr} {r : List V → Hp → VK → Prop} {g : List D → Option D} (hp : ∀ t, PA X es t → PE X e (tCB r t)) (hg : CallS C.toGc r g) (ha : BA X C W es As) : BE X C W e (eCallF g As) :=
  (hp _ ha).imp fun σ H Q ⟨e, Hs, fe, P, ok, q⟩ => by
    refine firstA ok q.bind fun as e1 vs Hs1 H1 fe1 fv1 a1 ok1 r1 q1 => ?_
    cases h : (dvs as).bind fun ds => g (frzs ds) with
    | none => rw [h] at q1; exact q1.elim
    | some z =>
      rw [h] at q1
      obtain ⟨ds, h1, h2⟩ := Option.bind_eq_some_iff.mp h
      obtain ⟨Hs3, a3, ok3, r3⟩ := ok1.freezes (r1.vals h1)
      exact hg ok3.sm r3 h2 fun v Hs5 H5 fv n rz => (q1.shift (a1.trans a3)) v Hs5 H5 fe1 fv (n.aft ok3) ((ok3.new n fun _ h => absurd rfl h).fps (fun _ => rfl) fun _ => (Nat.zero_add _).symm) rz
/-- a tuple; a list whose items stay owned -/
theorem be_tup {x1} (ha : BA X C W es As) : BE X C W (.Tuple es x1 pos) (eTup As) :=
  (pe_tup ha).imp fun σ H Q ⟨e, Hs, fe, P, ok, q⟩ => by
    refine firstA ok q.bind fun as e1 vs Hs1 H1 fe1 fv1 a1 ok1 r1 q1 => ?_
    cases h : (dvs as).bind fun ds => (fun ds => if ds.length ≤ lim then some (D.nd .tup false ds) else none) (frzs ds) with
    | none => rw [h] at q1; exact q1.elim
    | some z =>
      rw [h] at q1
      obtain ⟨ds, h1, h2⟩ := Option.bind_eq_some_iff.mp h
      dsimp only at h2
      split at h2
      · rename_i hl
        cases h2
        obtain ⟨Hs3, a3, ok3, r3⟩ := ok1.freezes (r1.vals h1)
        refine ⟨by rw [r3.len]; exact lim_le hl, fun p hp => ?_⟩
        exact resTup (G := C.toGc) ok3.sm (fun v Hs5 H5 fv n rz => (q1.shift (a1.trans a3)) v Hs5 H5 fe1 fv (n.aft ok3) ((ok3.new n fun _ h => absurd rfl h).fps (fun _ => rfl) fun _ => (Nat.zero_add _).symm) rz) r3 hp
      · cases h2
theorem be_lst (ha : BA X C W es As) : BE X C W (.List es pos) (eLst As) :=
  (pe_lst ha).imp fun σ H Q ⟨e, Hs, fe, P, ok, q⟩ => by
    refine firstA ok q.bind fun as e1 vs Hs1 H1 fe1 fv1 a1 ok1 r1 q1 => ?_
    cases h : (dvs as).bind fun ds => if ds.length ≤ lim then some (D.nd .lst true ds) else none with
    | none => rw [h] at q1; exact q1.elim
    | some z =>
      rw [h] at q1
      obtain ⟨ds, h1, h2⟩ := Option.bind_eq_some_iff.mp h
      split at h2
      · rename_i hl
        cases h2
        have r3 := r1.vals h1
        refine ⟨by rw [r3.len]; exact lim_le hl, fun p hp => ?_⟩
        have n := New.obj (o := .lst vs) ok1.sm hp
        have hne : ∀ b, fv1 b ≠ 0 → b ≠ p := fun b hb z => (r3.live b hb).1 (z ▸ hp)
        exact (q1.shift a1) _ Hs1 _ fe1 _ (n.aft ok1) (ok1.new n fun b hb => (r3.live b hb).1) (newLst ok1.sm hp r3 hne)
      · cases h2
end
end Bx

set_option Elab.async false
set_option linter.all false
set_option maxRecDepth 100000
set_option maxHeartbeats 1000000
/-! Built-ins by their data. -/
namespace Bx
open PySem L2

def intsD : List D → Option (List Int)
  | [] => some []
  | .int i :: xs => (intsD xs).map (i :: ·)
  | _ => none
def blsD : List D → Option (List Bool)
  | [] => some []
  | .bl i :: xs => (blsD xs).map (i :: ·)
  | _ => none
theorem intsD_some : ∀ {xs : List D} {ns : List Int}, intsD xs = some ns → xs = ns.map D.int
  | [], _, h => by cases h; rfl
  | .int i :: xs, ns, h => by
    unfold intsD at h
    obtain ⟨ms, h1, rfl⟩ := Option.map_eq_some_iff.mp h
    rw [intsD_some h1]; rfl
  | .non :: _, _, h => by cases h
  | .bl _ :: _, _, h => by cases h
  | .str _ :: _, _, h => by cases h
  | .ty _ :: _, _, h => by cases h
  | .nd _ _ _ :: _, _, h => by cases h
theorem blsD_some : ∀ {xs : List D} {ns : List Bool}, blsD xs = some ns → xs = ns.map D.bl
  | [], _, h => by cases h; rfl
  | .bl i :: xs, ns, h => by
    unfold blsD at h
    obtain ⟨ms, h1, rfl⟩ := Option.map_eq_some_iff.mp h
    rw [blsD_some h1]; rfl
  | .non :: _, _, h => by cases h
  | .int _ :: _, _, h => by cases h
  | .str _ :: _, _, h => by cases h
  | .ty _ :: _, _, h => by cases h
  | .nd _ _ _ :: _, _, h => by cases h
@[simp] theorem intsD_map : ∀ ns : List Int, intsD (ns.map D.int) = some ns
  | [] => rfl
  | n :: ns => by rw [List.map_cons]; unfold intsD; rw [intsD_map ns]; rfl
@[simp] theorem blsD_map : ∀ ns : List Bool, blsD (ns.map D.bl) = some ns
  | [] => rfl
  | n :: ns => by rw [List.map_cons]; unfold blsD; rw [blsD_map ns]; rfl
def maxI : List Int → Int
  | [] => 0
  | [x] => x
  | x :: xs => if x < maxI xs then maxI xs else x
def minI : List Int → Int
  | [] => 0
  | [x] => x
  | x :: xs => if minI xs < x then minI xs else x
theorem maxI_mem : ∀ {ns : List Int}, ns ≠ [] → maxI ns ∈ ns
  | [], h => absurd rfl h
  | [x], _ => List.mem_singleton.mpr rfl
  | x :: y :: r, _ => by
    have ih := maxI_mem (ns := y :: r) (by simp)
    unfold maxI
    split
    · exact List.mem_cons_of_mem _ ih
    · exact List.mem_cons_self
theorem maxI_ge : ∀ {ns : List Int} {y : Int}, y ∈ ns → y ≤ maxI ns
  | [x], y, h => by rw [List.mem_singleton.mp h]; exact Int.le_refl _
  | x :: z :: r, y, h => by
    unfold maxI
    rcases List.mem_cons.mp h with rfl | h
    · split <;> omega
    · have ih := maxI_ge (ns := z :: r) h
      split <;> omega
theorem minI_mem : ∀ {ns : List Int}, ns ≠ [] → minI ns ∈ ns
  | [], h => absurd rfl h
  | [x], _ => List.mem_singleton.mpr rfl
  | x :: y :: r, _ => by
    have ih := minI_mem (ns := y :: r) (by simp)
    unfold minI
    split
    · exact List.mem_cons_of_mem _ ih
    · exact List.mem_cons_self
theorem minI_le : ∀ {ns : List Int} {y : Int}, y ∈ ns → minI ns ≤ y
  | [x], y, h => by rw [List.mem_singleton.mp h]; exact Int.le_refl _
  | x :: z :: r, y, h => by
    unfold minI
    rcases List.mem_cons.mp h with rfl | h
    · split <;> omega
    · have ih := minI_le (ns := z :: r) h
      split <;> omega

def lenD : List D → Option D
  | [.str x] => if x.length ≤ lim then some (.int x.length) else none
  | [d] => match d.seq with
    | some (_, xs) => some (.int xs.length)
    | none => none
  | _ => none
def intD : List D → Option D
  | [.int i] => some (.int i)
  | [.bl k] => some (.int (if k then 1 else 0))
  | _ => none
def absD : List D → Option D
  | [.int i] => some (.int (if i < 0 then -i else i))
  | _ => none
def maxD : List D → Option D
  | [.int i, .int j] => some (.int (if j > i then j else i))
  | [d] => match d.seq with
    | some (true, xs) => (match intsD xs with
      | some ns => if ns ≠ [] then some (.int (maxI ns)) else none
      | none => none)
    | _ => none
  | _ => none
def minD : List D → Option D
  | [.int i, .int j] => some (.int (if j < i then j else i))
  | [d] => match d.seq with
    | some (true, xs) => (match intsD xs with
      | some ns => if ns ≠ [] then some (.int (minI ns)) else none
      | none => none)
    | _ => none
  | _ => none
def sumD : List D → Option D
  | [d] => match d.seq with
    | some (true, xs) => (intsD xs).map fun ns => .int ns.sum
    | _ => none
  | _ => none
def allD : List D → Option D
  | [d] => match d.seq with
    | some (true, xs) => (blsD xs).map fun ns => .bl (ns.all id)
    | _ => none
  | _ => none
def anyD : List D → Option D
  | [d] => match d.seq with
    | some (true, xs) => (blsD xs).map fun ns => .bl (ns.any id)
    | _ => none
  | _ => none
def tyD : D → Option String
  | .non => some "NoneType" | .bl _ => some "bool" | .int _ => some "int" | .str _ => some "str" | .ty _ => none
  | .nd k _ _ => match k with
    | .lst => some "list" | .tup => some "tuple" | .dk _ => some "dict" | _ => none
def tyNs : List String := ["NoneType", "bool", "int", "str", "list", "tuple", "dict"]
def subT (t n : String) : Bool := t == n || (t == "bool" && n == "int")
theorem subT_kit : ∀ t ∈ tyNs, ∀ n ∈ tyNs, kitB t n = some (subT t n) := by decide +kernel
def tysD : List D → Option (List String)
  | [] => some []
  | .ty n :: xs => if tyNs.contains n then (tysD xs).map (n :: ·) else none
  | _ => none
def isiD : List D → Option D
  | [d, .ty n] => match tyD d with
    | some t => if tyNs.contains n then some (.bl (subT t n)) else none
    | none => none
  | [d, .nd .tup _ xs] => match tyD d, tysD xs with
    | some t, some ns => some (.bl (ns.any fun n => subT t n))
    | _, _ => none
  | _ => none
def reprD : List D → Option D
  | [.int i] => if i.natAbs.log2 < 1920 then some (.str (Str.ofString (toString i))) else none
  | [.str x] => if (reprText x).length ≤ lim then some (.str (reprText x)) else none
  | [.non] => some (.str "None")
  | [.bl k] => some (.str (if k then "True" else "False"))
  | _ => none
def strD : List D → Option D
  | [.int i] => if i.natAbs.log2 < 1920 then some (.str (Str.ofString (toString i))) else none
  | [.str x] => some (.str x)
  | _ => none
def listD : List D → Option D
  | [d] => match d.seq with
    | some (_, xs) => some (.nd .lst true xs)
    | none => none
  | _ => none
def tupleD : List D → Option D
  | [.nd .tup o xs] => some (.nd .tup false xs)
  | [d] => match d.seq with
    | some (true, xs) => some (.nd .tup false xs)
    | _ => none
  | _ => none

theorem CallR.or {X : Cx} {f : Value} {r r' : List V → Hp → VK → Prop} (h : CallR X f r) (h' : CallR X f r') : CallR X f (fun xs H Q => r xs H Q ∨ r' xs H Q) :=
  fun pins s σ H xs us Q I rv q => q.elim (h pins s σ H xs us Q I rv) (h' pins s σ H xs us Q I rv)
section
variable {G : Gc} {Hs H : Hp}
theorem Rpb.one {vs : List V} {d : D} (r : Rpb G Hs H vs [d]) : ∃ v f, vs = [v] ∧ Rp G Hs H v d f := by
  cases r with | cons r rs => cases rs with | nil => exact ⟨_, _, rfl, r⟩
theorem Rpb.two {vs : List V} {d e : D} (r : Rpb G Hs H vs [d, e]) : ∃ v f w g, vs = [v, w] ∧ Rp G Hs H v d f ∧ Rp G Hs H w e g := by
  cases r with | cons r rs => cases rs with | cons r2 rs => cases rs with | nil => exact ⟨_, _, _, _, rfl, r, r2⟩
theorem Rps.one {vs : List V} {d : D} {f : Fp} (r : Rps G Hs H vs [d] f) : ∃ v, vs = [v] ∧ Rp G Hs H v d f := by
  cases r with | cons r rs e => cases rs with | nil z => exact ⟨_, rfl, r.fp fun b => by rw [e b, z b]; rfl⟩
def rLenA (K : PySem.W.Frag) : List V → Hp → VK → Prop := fun xs H Q => ∃ x n, xs = [x] ∧ LenV K x H n ∧ Q (V.int ↑n) H
theorem lenS : CallB G (rLenA G.K) lenD := by
  intro Hs H vs ds z Q s r0 hz q
  unfold lenD at hz
  split at hz
  · split at hz
    · rename_i h
      cases hz
      obtain ⟨v, f, rfl, r⟩ := r0.one
      rw [r.toS]
      exact ⟨_, _, rfl, ⟨lim_le h, rfl⟩, q _ (r_int _)⟩
    · cases hz
  · split at hz
    · rename_i b xs h
      cases hz
      obtain ⟨v, f, rfl, r⟩ := r0.one
      obtain ⟨a, ws, g, rfl, h1, h2, rs, _⟩ := r.seq s h
      refine ⟨_, xs.length, rfl, ?_, q _ (r_int _)⟩
      cases b
      · exact .inr ⟨ws, h2 rfl, rs.len.symm⟩
      · exact .inl ⟨ws, h1 rfl, rs.len.symm⟩
    · cases hz
  · cases hz
def rInt1 : List V → Hp → VK → Prop := fun xs H Q => (∃ i, xs = [V.int i] ∧ Q (V.int i) H) ∨ ∃ k, xs = [V.bl k] ∧ Q (V.int (if k = true then 1 else 0)) H
theorem intS : CallB G rInt1 intD := by
  intro Hs H vs ds z Q s r0 hz q
  unfold intD at hz
  split at hz
  · cases hz
    obtain ⟨v, f, rfl, r⟩ := r0.one
    rw [r.toI]; exact .inl ⟨_, rfl, q _ (r_int _)⟩
  · cases hz
    obtain ⟨v, f, rfl, r⟩ := r0.one
    rw [r.toB]; exact .inr ⟨_, rfl, q _ (r_int _)⟩
  · cases hz
def rAbs : List V → Hp → VK → Prop := fun xs H Q => ∃ i, xs = [V.int i] ∧ Q (V.int (if i < 0 then -i else i)) H
theorem absS : CallB G rAbs absD := by
  intro Hs H vs ds z Q s r0 hz q
  unfold absD at hz
  split at hz
  · cases hz
    obtain ⟨v, f, rfl, r⟩ := r0.one
    rw [r.toI]; exact ⟨_, rfl, q _ (r_int _)⟩
  · cases hz
def rMaxA (K : PySem.W.Frag) : List V → Hp → VK → Prop := fun xs H Q => (∃ i j, xs = [V.int i, V.int j] ∧ Q (V.int (if j > i then j else i)) H) ∨ rMax K xs H Q
def rMinA (K : PySem.W.Frag) : List V → Hp → VK → Prop := fun xs H Q => (∃ i j, xs = [V.int i, V.int j] ∧ Q (V.int (if j < i then j else i)) H) ∨ rMin K xs H Q
theorem call_maxA {X : Cx} (hc : X.calm = true) : CallR X (.builtin "max") (rMaxA X.K) := CallR.or (call_max2 hc) (cr_max hc)
theorem call_minA {X : Cx} (hc : X.calm = true) : CallR X (.builtin "min") (rMinA X.K) := CallR.or (call_min2 hc) (cr_min hc)
theorem maxS : CallB G (rMaxA G.K) maxD := by
  intro Hs H vs ds z Q s r0 hz q
  unfold maxD at hz
  split at hz
  · cases hz
    obtain ⟨v, f, w, g, rfl, r, r2⟩ := r0.two
    rw [r.toI, r2.toI]; exact .inl ⟨_, _, rfl, q _ (r_int _)⟩
  · split at hz
    · rename_i h
      split at hz
      · rename_i ns hn
        split at hz
        · rename_i h0
          cases hz
          obtain ⟨v, f, rfl, r⟩ := r0.one
          obtain ⟨a, ws, g, rfl, h1, _, rs, _⟩ := r.seq s h
          rw [intsD_some hn] at rs
          refine .inr ⟨a, ns, rfl, by rw [← rs.ints]; exact h1 rfl, List.length_pos_iff.mpr h0, fun m hm hle => ?_⟩
          have e : m = maxI ns := Int.le_antisymm (maxI_ge hm) (hle _ (maxI_mem h0))
          rw [e]; exact q _ (r_int _)
        · cases hz
      · cases hz
    · cases hz
  · cases hz
theorem minS : CallB G (rMinA G.K) minD := by
  intro Hs H vs ds z Q s r0 hz q
  unfold minD at hz
  split at hz
  · cases hz
    obtain ⟨v, f, w, g, rfl, r, r2⟩ := r0.two
    rw [r.toI, r2.toI]; exact .inl ⟨_, _, rfl, q _ (r_int _)⟩
  · split at hz
    · rename_i h
      split at hz
      · rename_i ns hn
        split at hz
        · rename_i h0
          cases hz
          obtain ⟨v, f, rfl, r⟩ := r0.one
          obtain ⟨a, ws, g, rfl, h1, _, rs, _⟩ := r.seq s h
          rw [intsD_some hn] at rs
          refine .inr ⟨a, ns, rfl, by rw [← rs.ints]; exact h1 rfl, List.length_pos_iff.mpr h0, fun m hm hle => ?_⟩
          have e : m = minI ns := Int.le_antisymm (hle _ (minI_mem h0)) (minI_le hm)
          rw [e]; exact q _ (r_int _)
        · cases hz
      · cases hz
    · cases hz
  · cases hz
theorem sumS : CallB G (rSum G.K) sumD := by
  intro Hs H vs ds z Q s r0 hz q
  unfold sumD at hz
  split at hz
  · split at hz
    · rename_i h
      obtain ⟨ns, hn, rfl⟩ := Option.map_eq_some_iff.mp hz
      obtain ⟨v, f, rfl, r⟩ := r0.one
      obtain ⟨a, ws, g, rfl, h1, _, rs, _⟩ := r.seq s h
      rw [intsD_some hn] at rs
      exact ⟨a, ns, rfl, by rw [← rs.ints]; exact h1 rfl, q _ (r_int _)⟩
    · cases hz
  · cases hz
theorem allS : CallB G (rAll G.K) allD := by
  intro Hs H vs ds z Q s r0 hz q
  unfold allD at hz
  split at hz
  · split at hz
    · rename_i h
      obtain ⟨ns, hn, rfl⟩ := Option.map_eq_some_iff.mp hz
      obtain ⟨v, f, rfl, r⟩ := r0.one
      obtain ⟨a, ws, g, rfl, h1, _, rs, _⟩ := r.seq s h
      rw [blsD_some hn] at rs
      exact ⟨a, ns, rfl, by rw [← rs.bls]; exact h1 rfl, q _ (r_bl _)⟩
    · cases hz
  · cases hz
theorem anyS : CallB G (rAny G.K) anyD := by
  intro Hs H vs ds z Q s r0 hz q
  unfold anyD at hz
  split at hz
  · split at hz
    · rename_i h
      obtain ⟨ns, hn, rfl⟩ := Option.map_eq_some_iff.mp hz
      obtain ⟨v, f, rfl, r⟩ := r0.one
      obtain ⟨a, ws, g, rfl, h1, _, rs, _⟩ := r.seq s h
      rw [blsD_some hn] at rs
      exact ⟨a, ns, rfl, by rw [← rs.bls]; exact h1 rfl, q _ (r_bl _)⟩
    · cases hz
  · cases hz
theorem Rp.tyx {v : V} {d : D} {f : Fp} {t : String} (s : Sm Hs H) (r : Rp G Hs H v d f) (h : tyD d = some t) : TyX G.K H v (.type t) := by
  cases d with
  | non => cases h; rw [r.toN]; exact .base .non
  | bl k => cases h; rw [r.toB]; exact .base (.bl _)
  | int i => cases h; rw [r.toI]; exact .base (.int _)
  | str x => cases h; rw [r.toS]; exact .base (.str _)
  | ty n => cases h
  | nd k o xs =>
    obtain ⟨a, vs, g, rfl, rs, _, at_⟩ := r.nd s
    cases k with
    | lst =>
      cases h
      rcases at_ with h | ⟨h, _⟩ | ⟨h, _⟩
      · exact .base (.lst h)
      · exact .base (.lst (sm_lst s h))
      · cases h
    | tup =>
      cases h
      rcases at_ with h | ⟨h, _⟩ | ⟨h, _⟩
      · exact .base (.tup h)
      · exact .base (.tup (sm_tup s h))
      · cases h
    | dk ks =>
      cases h
      rcases at_ with h | ⟨h, _⟩ | ⟨h, _⟩
      · exact .base (.dK h.2)
      · rcases s _ _ h.2 with z | ⟨_, od, z⟩
        · exact .base (.dK z)
        · exact .fDict z
      · cases h
    | _ => cases h
theorem tyD_mem {d : D} {t : String} (h : tyD d = some t) : t ∈ tyNs := by
  cases d with
  | nd k o xs => cases k <;> cases h <;> decide
  | _ => cases h <;> decide
theorem tysD_some : ∀ {xs : List D} {ns : List String}, tysD xs = some ns → xs = ns.map D.ty ∧ ∀ n ∈ ns, n ∈ tyNs
  | [], _, h => by cases h; exact ⟨rfl, fun _ h => by cases h⟩
  | .ty n :: xs, ns, h => by
    unfold tysD at h
    split at h
    · rename_i hn
      obtain ⟨ms, h1, rfl⟩ := Option.map_eq_some_iff.mp h
      obtain ⟨e, k⟩ := tysD_some h1
      exact ⟨by rw [e]; rfl, fun m hm => by
        rcases List.mem_cons.mp hm with rfl | hm
        · exact List.contains_iff_mem.mp hn
        · exact k m hm⟩
    · cases h
  | .non :: _, _, h => by cases h
  | .bl _ :: _, _, h => by cases h
  | .int _ :: _, _, h => by cases h
  | .str _ :: _, _, h => by cases h
  | .nd _ _ _ :: _, _, h => by cases h
theorem Rps.tys : ∀ {vs : List V} {ns : List String} {g : Fp}, Rps G Hs H vs (ns.map D.ty) g → Paired ClsV vs (ns.map Value.type)
  | _, [], _, .nil _ => .nil
  | _, n :: ns, _, .cons r rs _ => by rw [r.toT]; exact .cons (.ty n) (Rps.tys rs)
theorem kitAny_ty {K : PySem.W.Frag} {t : String} (ht : t ∈ tyNs) : ∀ ns : List String, (∀ n ∈ ns, n ∈ tyNs) → PySem.W.kitAny K (.type t) (ns.map Value.type) = some (ns.any fun n => subT t n)
  | [], _ => rfl
  | n :: ns, h => by
    have h1 := subT_kit t ht n (h n List.mem_cons_self)
    have ih := kitAny_ty (K := K) ht ns fun m hm => h m (List.mem_cons_of_mem _ hm)
    refine kitAny_cons (kit_ty h1) (fun e => ?_) fun e => ?_
    · rw [ih, List.any_cons, e]; rfl
    · rw [List.any_cons, e]; rfl
def rIsiA (K : PySem.W.Frag) : List V → Hp → VK → Prop := fun xs H Q => rIsi K xs H Q ∨ rIsiT K xs H Q
theorem call_isiA {X : Cx} : CallR X (.builtin "isinstance") (rIsiA X.K) := CallR.or call_isi call_isiT
theorem isiS : CallB G (rIsiA G.K) isiD := by
  intro Hs H vs ds z Q s r0 hz q
  unfold isiD at hz
  split at hz
  · split at hz
    · rename_i t ht
      split at hz
      · rename_i hn
        cases hz
        obtain ⟨v, f, w, g, rfl, r, r2⟩ := r0.two
        rw [r2.toT]
        exact .inl ⟨_, _, _, _, _, rfl, .ty _, r.tyx s ht, kit_ty (subT_kit _ (tyD_mem ht) _ (List.contains_iff_mem.mp hn)), q _ (r_bl _)⟩
      · cases hz
    · cases hz
  · split at hz
    · rename_i t ns ht hn
      cases hz
      obtain ⟨v, f, w, g, rfl, r, r2⟩ := r0.two
      obtain ⟨a, ws, g', rfl, rs, _, at_⟩ := r2.nd s
      obtain ⟨e, k⟩ := tysD_some hn
      rw [e] at rs
      have ha : H a = some (.tup ws) := by
        rcases at_ with h | ⟨h, _⟩ | ⟨h, _⟩
        · exact h
        · exact sm_tup s h
        · cases h
      exact .inr ⟨_, _, _, _, _, _, rfl, ha, rs.tys, r.tyx s ht, kitAny_ty (tyD_mem ht) ns k, q _ (r_bl _)⟩
    · cases hz
  · cases hz
def rRepr : List V → Hp → VK → Prop := fun xs H Q => (∃ i, xs = [.int i] ∧ i.natAbs.log2 < 1920 ∧ Q (.str (Str.ofString (toString i))) H) ∨ (∃ x, xs = [.str x] ∧ (reprText x).length ≤ sizeLine ∧ Q (.str (reprText x)) H) ∨
  (xs = [.non] ∧ Q (.str "None") H) ∨ ∃ k, xs = [.bl k] ∧ Q (.str (if k then "True" else "False")) H
theorem call_repr {X : Cx} : CallR X (.builtin "repr") rRepr := by
  intro pins s σ H xs us Q I r h
  rcases h with ⟨i, rfl, hz, q⟩ | ⟨x, rfl, hz, q⟩ | ⟨rfl, q⟩ | ⟨k, rfl, q⟩
  · cases r with | cons r rs =>
    cases rs
    obtain ⟨t, rfl⟩ := r
    exact PySem.P.repr_of_int hz ⟨.str _, H, I.tok _, ⟨_, rfl⟩, q⟩
  · cases r with | cons r rs =>
    cases rs
    obtain ⟨t, rfl⟩ := r
    exact PySem.P.repr_of_str ⟨.str _, H, I.tok _, ⟨_, rfl⟩, q⟩ hz
  · cases r with | cons r rs =>
    cases rs
    cases r
    exact PySem.P.repr_of_none ⟨.str _, H, I.tok _, ⟨_, rfl⟩, q⟩
  · cases r with | cons r rs =>
    cases rs
    cases r
    refine PySem.P.repr_of_bool ⟨.str _, H, I.tok _, ⟨_, rfl⟩, ?_⟩
    cases k <;> exact q
theorem reprS : CallB G rRepr reprD := by
  intro Hs H vs ds z Q s r0 hz q
  unfold reprD at hz
  split at hz
  · split at hz
    · rename_i h
      cases hz
      obtain ⟨v, f, rfl, r⟩ := r0.one
      rw [r.toI]; exact .inl ⟨_, rfl, h, q _ (r_str _)⟩
    · cases hz
  · split at hz
    · rename_i h
      cases hz
      obtain ⟨v, f, rfl, r⟩ := r0.one
      rw [r.toS]; exact .inr (.inl ⟨_, rfl, lim_le h, q _ (r_str _)⟩)
    · cases hz
  · cases hz
    obtain ⟨v, f, rfl, r⟩ := r0.one
    rw [r.toN]; exact .inr (.inr (.inl ⟨rfl, q _ (r_str _)⟩))
  · cases hz
    obtain ⟨v, f, rfl, r⟩ := r0.one
    rw [r.toB]; exact .inr (.inr (.inr ⟨_, rfl, q _ (r_str _)⟩))
  · cases hz
def rStrA : List V → Hp → VK → Prop := fun xs H Q => (∃ i, xs = [V.int i] ∧ i.natAbs.log2 < 1920 ∧ Q (V.str (PySem.Str.ofString (toString i))) H) ∨ ∃ a, xs = [.str a] ∧ Q (.str a) H
theorem call_strA {X : Cx} : CallR X (.type "str") rStrA := CallR.or call_str_int SkE.call_str_str
theorem strS : CallB G rStrA strD := by
  intro Hs H vs ds z Q s r0 hz q
  unfold strD at hz
  split at hz
  · split at hz
    · rename_i h
      cases hz
      obtain ⟨v, f, rfl, r⟩ := r0.one
      rw [r.toI]; exact .inl ⟨_, rfl, h, q _ (r_str _)⟩
    · cases hz
  · cases hz
    obtain ⟨v, f, rfl, r⟩ := r0.one
    rw [r.toS]; exact .inr ⟨_, rfl, q _ (r_str _)⟩
  · cases hz
def rListA (K : PySem.W.Frag) : List V → Hp → VK → Prop := fun xs H Q => ∃ p ys, xs = [V.ref p] ∧ (SqL K H p ys ∨ SqT K H p ys) ∧ ∀ (l : Addr), H l = none → Q (V.ref l) (upd H l (HO.lst ys))
theorem listS : CallS G (rListA G.K) listD := by
  intro Hs H vs ds z Q s r0 hz q
  unfold listD at hz
  split at hz
  · split at hz
    · rename_i b xs h
      cases hz
      obtain ⟨v, rfl, r⟩ := r0.one
      obtain ⟨a, ws, g, rfl, h1, h2, rs, le⟩ := r.seq s h
      refine ⟨a, ws, rfl, ?_, fun l hl => resLst s q (rs.z le) hl⟩
      cases b
      · exact .inr (h2 rfl)
      · exact .inl (h1 rfl)
    · cases hz
  · cases hz
def rTupleA (K : PySem.W.Frag) : List V → Hp → VK → Prop := fun xs H Q => ∃ p ys, xs = [V.ref p] ∧ ((SqL K H p ys ∧ ∀ (l : Addr), H l = none → Q (V.ref l) (upd H l (HO.tup ys))) ∨ SqT K H p ys ∧ Q (V.ref p) H)
theorem tupleS : CallS G (rTupleA G.K) tupleD := by
  intro Hs H vs ds z Q s r0 hz q
  unfold tupleD at hz
  split at hz
  · cases hz
    obtain ⟨v, rfl, r⟩ := r0.one
    have r' := r
    cases r with
    | sh h rs z => exact ⟨_, _, rfl, .inr ⟨SqT.of (sm_tup s h), q _ Hs H f0 (New.refl s) (.sh h rs z)⟩⟩
    | own h w n rs e => have := e ‹Addr›; rw [if_pos rfl] at this; simp only [f0] at this; omega
  · split at hz
    · rename_i h
      cases hz
      obtain ⟨v, rfl, r⟩ := r0.one
      obtain ⟨a, ws, g, rfl, h1, h2, rs, le⟩ := r.seq s h
      exact ⟨a, ws, rfl, .inl ⟨h1 rfl, fun l hl => resTup s q (rs.z le) hl⟩⟩
    · cases hz
  · cases hz
end
end Bx

set_option Elab.async false
set_option linter.all false
set_option maxRecDepth 100000
set_option maxHeartbeats 1000000
/-! Subscripts, slices. -/
namespace Bx
open PySem L2

def kpos {κ : Type} [DecidableEq κ] : List κ → κ → Option Nat
  | [], _ => none
  | k' :: ks, k => if k' = k then some 0 else (kpos ks k).map (· + 1)
theorem valV_kpos {κ : Type} [DecidableEq κ] {k : κ} : ∀ {ks : List κ} {vs : List V}, ks.length = vs.length → valV (ks.zip vs) k = (kpos ks k).bind (vs[·]?)
  | [], [], _ => rfl
  | [], _ :: _, h => by cases h
  | _ :: _, [], h => by cases h
  | k' :: ks, v :: vs, h => by
    have ih := valV_kpos (k := k) (ks := ks) (vs := vs) (by simpa using h)
    unfold valV at ih ⊢
    unfold kpos
    rw [List.zip_cons_cons, List.find?_cons]
    by_cases e : k' = k
    · rw [if_pos e, decide_eq_true e]; rfl
    · rw [if_neg e, decide_eq_false e, ih]
      cases kpos ks k <;> rfl
theorem kpos_lt {κ : Type} [DecidableEq κ] {k : κ} : ∀ {ks : List κ} {j : Nat}, kpos ks k = some j → j < ks.length
  | [], _, h => by cases h
  | k' :: ks, j, h => by
    unfold kpos at h
    split at h
    · cases h; simp
    · obtain ⟨i, h1, rfl⟩ := Option.map_eq_some_iff.mp h
      have := kpos_lt h1
      rw [List.length_cons]; omega
def keyD : D → Option Key
  | .int i => some (.inl i)
  | .str x => some (.inr x)
  | _ => none
def keysD : List D → Option (List Key)
  | [] => some []
  | d :: ds => (keyD d).bind fun k => (keysD ds).map (k :: ·)
def tkeyD : D → Option (List Key)
  | .nd .tup _ xs => keysD xs
  | _ => none
def cpos : D → D → Option Nat
  | .nd k _ xs, y => match k with
    | .lst => (match y with | .int i => ixN xs.length i | _ => none)
    | .wl => (match y with | .int i => ixN xs.length i | _ => none)
    | .tup => (match y with | .int i => ixN xs.length i | _ => none)
    | .wt => (match y with | .int i => ixN xs.length i | _ => none)
    | .dk ks => (keyD y).bind (kpos ks)
    | .dt ks => (tkeyD y).bind (kpos ks)
    | .ins _ _ => none
  | _, _ => none
def idxD : D → D → Option D
  | .str x, y => (match y with
    | .int i => if x.length ≤ lim then (atI x.cps.toList i).map fun c => .str ⟨#[c]⟩ else none
    | _ => none)
  | .nd k o xs, y => (cpos (.nd k o xs) y).bind (xs[·]?)
  | _, _ => none
/-- one item, frozen where it stands -/
def refD : D → D → Option (D × D)
  | .nd k o xs, y => (cpos (.nd k o xs) y).bind fun j => (xs[j]?).map fun d => (frz d, if o then .nd k o (xs.set j (frz d)) else .nd k o xs)
  | d, y => (idxD d y).map fun z => (z, d)

def rDIx : R2 := fun x y H Q => ∃ a v, x = V.ref a ∧ DGet H a y (some v) ∧ Q v H
def rIxA (K : PySem.W.Frag) : R2 := fun x y H Q => rIx K x y H Q ∨ rDIx x y H Q
theorem ix_dict {X : Cx} (hu : X.A.units + 1 < cLine) : IxR X rDIx := by
  intro value slice pins s σ H x y v u Q I rx ry h hs
  obtain ⟨a, w, rfl, g, q⟩ := h
  cases rx
  exact PyProof.Rows.tail_any (dict_typeIs I g) PySem.F.slot_dict_getitem.lookup (d_getItem hu I g ry fun w' s3 I3 rw' => ⟨w, H, I3, rw', q⟩) hs
theorem ix_A {X : Cx} (hu : X.A.units + 1 < cLine) : IxR X (rIxA X.K) := fun a b pins s σ H x y v u Q I rx ry h hs =>
  h.elim (fun h => ix_seq a b pins s σ H x y v u Q I rx ry h hs) fun h => ix_dict hu a b pins s σ H x y v u Q I rx ry h hs

section
variable {G : Gc} {Hs H : Hp}
theorem keyD_rp {v : V} {d : D} {f : Fp} {k : Key} (r : Rp G Hs H v d f) (h : keyD d = some k) : v = kV k := by
  cases d with
  | int i => cases h; exact r.toI
  | str x => cases h; exact r.toS
  | _ => cases h
theorem keysD_rps : ∀ {vs : List V} {ds : List D} {f : Fp} {ks : List Key}, Rps G Hs H vs ds f → keysD ds = some ks → vs = ks.map kV
  | _, _, _, _, .nil _, h => by cases h; rfl
  | _, _, _, ks, .cons (d := d) (ds := ds) r rs _, h => by
    unfold keysD at h
    obtain ⟨k, h1, h2⟩ := Option.bind_eq_some_iff.mp h
    obtain ⟨ks', h3, rfl⟩ := Option.map_eq_some_iff.mp h2
    rw [keyD_rp r h1, keysD_rps rs h3]; rfl
theorem tkeyD_rp {v : V} {d : D} {f : Fp} {ks : List Key} (s : Sm Hs H) (r : Rp G Hs H v d f) (h : tkeyD d = some ks) : ∃ b, v = .ref b ∧ H b = some (.tup (ks.map kV)) := by
  cases d with
  | nd k o xs =>
    cases k with
    | tup =>
      obtain ⟨a, vs, g, e, rs, _, at_⟩ := r.nd s
      refine ⟨a, e, ?_⟩
      rw [← keysD_rps rs h]
      rcases at_ with h | ⟨h, _⟩ | ⟨h, _⟩
      · exact h
      · exact sm_tup s h
      · cases h
    | _ => cases h
  | _ => cases h
theorem dk_rd' {a : Addr} {ks : List Key} {vs : List V} {o : Bool} (s : Sm Hs H) (h : AtR G Hs H a (.dk ks) vs o) : ks.length = vs.length ∧ Rd H a (.dK (ks.zip vs)) := by
  rcases h with h | ⟨h, _⟩ | ⟨h, _⟩
  · exact ⟨h.1.1, .inl h.2⟩
  · exact ⟨h.1.1, s.rd h.2⟩
  · cases h
theorem dt_rd' {a : Addr} {ks : List (List Key)} {vs : List V} {o : Bool} (s : Sm Hs H) (h : AtR G Hs H a (.dt ks) vs o) : ks.length = vs.length ∧ Rd H a (.dT (ks.zip vs)) := by
  rcases h with h | ⟨h, _⟩ | ⟨h, _⟩
  · exact ⟨h.1.1, .inl h.2⟩
  · exact ⟨h.1.1, s.rd h.2⟩
  · cases h
/-- an item is read -/
theorem ixCore {a : Addr} {vs : List V} {w : V} {k : Kd} {o : Bool} {xs : List D} {y : D} {g : Fp} {j : Nat} (s : Sm Hs H) (at_ : AtR G Hs H a k vs o) (hl : vs.length = xs.length) (r2 : Rp G Hs H w y g) (h : cpos (.nd k o xs) y = some j) :
    ∀ u Q, vs[j]? = some u → Q u H → rIxA G.K (.ref a) w H Q := by
  intro u Q hu q
  unfold AtR at at_
  unfold cpos at h
  cases k with
  | lst =>
    have ha : H a = some (.lst vs) := by
      rcases at_ with h | ⟨h, _⟩ | ⟨h, _⟩
      · exact h
      · exact sm_lst s h
      · cases h
    dsimp only at h
    split at h
    · rw [r2.toI]
      exact .inl (.inl ⟨a, vs, _, u, rfl, rfl, SqL.of ha, by unfold atI; rw [hl, h]; exact hu, q⟩)
    · cases h
  | wl =>
    have ha : SqL G.K H a vs := by
      rcases at_ with h | ⟨h, _⟩ | ⟨_, h⟩
      · exact h
      · exact s.sqL h
      · exact h
    dsimp only at h
    split at h
    · rw [r2.toI]
      exact .inl (.inl ⟨a, vs, _, u, rfl, rfl, ha, by unfold atI; rw [hl, h]; exact hu, q⟩)
    · cases h
  | tup =>
    have ha : H a = some (.tup vs) := by
      rcases at_ with h | ⟨h, _⟩ | ⟨h, _⟩
      · exact h
      · exact sm_tup s h
      · cases h
    dsimp only at h
    split at h
    · rw [r2.toI]
      exact .inl (.inr (.inl ⟨a, vs, _, u, rfl, rfl, SqT.of ha, by unfold atI; rw [hl, h]; exact hu, q⟩))
    · cases h
  | wt =>
    have ha : SqT G.K H a vs := by
      rcases at_ with h | ⟨h, _⟩ | ⟨_, h⟩
      · exact h
      · exact s.sqT h
      · exact h
    dsimp only at h
    split at h
    · rw [r2.toI]
      exact .inl (.inr (.inl ⟨a, vs, _, u, rfl, rfl, ha, by unfold atI; rw [hl, h]; exact hu, q⟩))
    · cases h
  | dk ks =>
    obtain ⟨hk, rd⟩ := dk_rd' s at_
    obtain ⟨k, h1, h2⟩ := Option.bind_eq_some_iff.mp h
    exact .inr ⟨a, u, rfl, .inl ⟨_, k, rd, keyD_rp r2 h1, by rw [valV_kpos hk, h2]; exact hu.symm⟩, q⟩
  | dt ks =>
    obtain ⟨hk, rd⟩ := dt_rd' s at_
    obtain ⟨k, h1, h2⟩ := Option.bind_eq_some_iff.mp h
    obtain ⟨b, e2, hb⟩ := tkeyD_rp s r2 h1
    exact .inr ⟨a, u, rfl, .inr ⟨_, k, b, rd, e2, hb, by rw [valV_kpos hk, h2]; exact hu.symm⟩, q⟩
  | ins c fn => cases h
theorem rps_frzAt : ∀ {vs : List V} {ds : List D} {f : Fp} {i : Nat} {d : D}, Rps G Hs H vs ds f → ds[i]? = some d →
    ∃ (v : V) (g1 g2 : Fp), vs[i]? = some v ∧ Rp G Hs H v d g1 ∧ (∀ b, f b = g1 b + g2 b) ∧ ∀ Hs', Same Hs Hs' → (∀ b, g1 b ≠ 0 → Hs' b = H b) → (∀ b, g2 b ≠ 0 → Hs' b = none) → Rps G Hs' H vs (ds.set i (frz d)) g2
  | _, _, _, i, _, .nil _, h => by simp at h
  | _, _, _, 0, _, .cons (f := f1) (g := g1) r rs e, h => by
    simp at h; subst h
    exact ⟨_, f1, g1, rfl, r, e, fun Hs' s k1 k2 => .cons (r.frz s (f0 := f0) (fun _ => rfl) k1) (rs.mono s fun b hb => ⟨rfl, k2 b hb⟩) fun b => (Nat.zero_add _).symm⟩
  | _, _, _, i + 1, _, .cons (f := f1) (g := g1) r rs e, h => by
    obtain ⟨v, a1, a2, h1, h2, h3, h4⟩ := rps_frzAt rs (i := i) (by simpa using h)
    refine ⟨v, a1, fun b => f1 b + a2 b, by simpa using h1, h2, fun b => by rw [e b, h3 b]; show _ = a1 b + (f1 b + a2 b); omega, fun Hs' s k1 k2 => ?_⟩
    exact .cons (r.mono s fun b hb => ⟨rfl, k2 b (by show f1 b + a2 b ≠ 0; omega)⟩) (h4 Hs' s k1 fun b hb => k2 b (by show f1 b + a2 b ≠ 0; omega)) fun b => rfl
/-- one item of a node is frozen -/
theorem Ok.itemFrz {C : Cc} {Hs H : Hp} {σ : L2.St} {e : En} {fe f1 : Fp} {P : Addr → Prop} {k : Kd} {o : Bool} {xs : List D} {v : V} {j : Nat} {x : D} (ok : Ok C Hs H σ e fe f1 P) (r : Rp C.toGc Hs H v (.nd k o xs) f1) (h : xs[j]? = some x) :
    ∃ a vs u Hs' f1', v = .ref a ∧ AtR C.toGc Hs H a k vs o ∧ vs.length = xs.length ∧ vs[j]? = some u ∧ Aft Hs H Hs' H P ∧ Ok C Hs' H σ e fe f1' P ∧ Rp C.toGc Hs' H u (frz x) f0 ∧ Rp C.toGc Hs' H v (if o then .nd k o (xs.set j (frz x)) else .nd k o xs) f1' := by
  cases r with
  | @sh a _ vs _ _ h1 rs z =>
    obtain ⟨u, g1, g2, hu, ru, eg, _⟩ := rs.get h
    have zg : ∀ b, g1 b = 0 := fun b => by have := eg b; have := z b; omega
    exact ⟨a, vs, u, Hs, f1, rfl, .sh ok.sm h1, rs.len, hu, Aft.refl _ _ _, ok, ru.frz (Same.refl _) (fun _ => rfl) fun b hb => absurd (zg b) hb, .sh h1 rs z⟩
  | @own a _ vs _ f _ h1 w n rs e1 =>
    obtain ⟨u, g1, g2, hu, ru, eg, k⟩ := rps_frzAt rs h
    have ok' : Ok C Hs H σ e fe (fun b => g1 b + (g2 b + if b = a then 1 else 0)) P := ok.fps (fun _ => rfl) fun b => by rw [e1 b, eg b]; omega
    obtain ⟨Hs', af, ok2, he⟩ := ok'.fz
    have k1 : ∀ b, g1 b ≠ 0 → Hs' b = H b := fun b hb => by rw [he b, if_pos hb]
    have k2 : ∀ b, g2 b + (if b = a then 1 else 0) ≠ 0 → Hs' b = none := fun b hb => by
      have := ok'.wf.one b
      rw [he b, if_neg (by omega)]
      exact ok'.wf.own b (by omega)
    refine ⟨a, vs, u, Hs', _, rfl, .inl h1, rs.len, hu, af, ok2, ru.frz af.sh (fun _ => rfl) k1, ?_⟩
    rw [if_pos rfl]
    exact .own h1 w (k2 a (by rw [if_pos rfl]; omega)) (k Hs' af.sh k1 fun b hb => k2 b (by omega)) fun b => rfl
theorem idxS : OpS G (rIxA G.K) idxD := by
  intro Hs H v1 v2 d1 d2 z Q s r1 r2 hz q
  unfold idxD at hz
  split at hz
  · split at hz
    · split at hz
      · rename_i h
        obtain ⟨c, h1, rfl⟩ := Option.map_eq_some_iff.mp hz
        rw [r1.toS, r2.toI]
        exact .inl (.inr (.inr ⟨_, _, c, rfl, rfl, lim_le h, h1, res0 s q (r_str _)⟩))
      · cases hz
    · cases hz
  · obtain ⟨j, h1, h2⟩ := Option.bind_eq_some_iff.mp hz
    obtain ⟨a, vs, f', rfl, rs, le, at_⟩ := r1.nd s
    obtain ⟨u, hu, ru⟩ := (rs.z le).at h2
    exact ixCore s at_ rs.len r2 h1 u Q hu (res0 s q ru)
  · cases hz
end

/-- x[y], x a slot's name: the slot stays as it is, the item is frozen there -/
def eIxN (i : Nat) (b : FE) : FE := fun e => match e.sl[i]? with
  | some (some _) => (b e).bind fun y e1 => match e1.sl[i]? with
    | some (some d) => .opt ((refD d (frz y)).map (·.1)) (match refD d (frz y) with | some (_, d') => { e1 with sl := e1.sl.set i (some d') } | none => e1)
    | _ => .bad
  | _ => .bad
section
variable {X : Cx} {C : Cc} {W : WX} {pos : Pos} {a b c : Expr} {es : List Expr} {Fa Fb Fc : FE} {As : FA}
theorem be_ix (hu : X.A.units + 1 < cLine) (hk : X.K = C.K) (ha : BE X C W a Fa) (hb : BE X C W b Fb) (hs : PlainIx b) : BE X C W (.Subscript a b pos) (eBin idxD Fa Fb) :=
  (pe_ix (ix_A hu) ha hb hs).imp fun σ H Q ⟨e, Hs, fe, P, ok, q⟩ => by
    refine firstE ok q.bind fun d1 e1 v1 Hs1 H1 fe1 fv1 a1 ok1 r1 q1 => ?_
    refine bindE ok1 (.rp r1) (q1.shift a1).bind fun d2 e2 v2 Hs2 H2 fe2 fv2 a2 ok2 r1 r2 q2 => ?_
    obtain ⟨Hs3, a3, ok3, r1', r2'⟩ := ok2.frzX r1 (.rp r2)
    obtain ⟨Hs4, a4, ok4, r2'', r1''⟩ := (ok3.fps (fun _ => rfl) (fx' := fun b => fv2 b + f0 b) fun _ => rfl).frzX r2' (.rp r1')
    have q3 := (q2.shift (a2.weak fun b hb => .inl hb)).shift (a3.trans a4)
    cases hz : idxD (frz d1) (frz d2) with
    | none => rw [hz] at q3; exact q3.elim
    | some z =>
      rw [hz] at q3
      rw [hk]
      exact idxS (G := C.toGc) ok4.sm r1'' r2'' hz fun v Hs5 H5 fv n rz => q3 v Hs5 H5 fe2 fv (n.aft ok4) ((ok4.new n fun _ h => absurd rfl h).fps (fun _ => rfl) fun _ => (Nat.zero_add _).symm) rz
/-- a slot's data changed in place to data with less that is owned -/
theorem Ok.slot {Hs H : Hp} {σ : L2.St} {e : En} {fe fx : Fp} {P : Addr → Prop} {i : Nat} {d : D} (ok : Ok C Hs H σ e fe fx P) (h1 : e.sl[i]? = some (some d)) :
    ∃ (v : V) (f1 f2 : Fp), σ[i]? = some (some v) ∧ Rp C.toGc Hs H v d f1 ∧ (∀ b, fe b = f1 b + f2 b) ∧ Ok C Hs H σ { e with sl := e.sl.set i none } f2 (fun b => f1 b + fx b) P ∧
      ∀ {Hs' H' : Hp} {f1' : Fp} {d' : D} {e' : En} {fx' : Fp}, Ok C Hs' H' σ { e' with sl := e.sl.set i none } f2 (fun b => f1' b + fx' b) P → Rp C.toGc Hs' H' v d' f1' → Ok C Hs' H' σ { e' with sl := e.sl.set i (some d') } (fun b => f1' b + f2 b) fx' P := by
  obtain ⟨v, f1, f2, e1, r1, e2, s2⟩ := ok.sl.get h1
  have hi : i < e.sl.length := (List.getElem?_eq_some_iff.mp h1).1
  refine ⟨v, f1, f2, e1, r1, e2, ⟨⟨ok.wf.sm, fun b => by have := ok.wf.one b; have := e2 b; omega, fun b hb => ok.wf.own b (by have := e2 b; omega), fun b hb => by have := ok.wf.apart b hb; have := e2 b; omega, ok.wf.live⟩, s2, ok.pn, ok.ex⟩, ?_⟩
  intro Hs' H' f1' d' e' fx' ok' r'
  have s3 := ok'.sl.put (i := i) (h := fun b => f1' b + f2 b) (by rw [List.getElem?_set_self hi]) r' fun b => rfl
  rw [List.set_set] at s3
  have e4 : σ.set i (some v) = σ := by
    obtain ⟨hl, hv⟩ := List.getElem?_eq_some_iff.mp e1
    rw [← hv]; exact List.set_getElem_self hl
  rw [e4] at s3
  exact ⟨⟨ok'.wf.sm, fun b => by have := ok'.wf.one b; omega, fun b hb => ok'.wf.own b (by omega), fun b hb => by have := ok'.wf.apart b hb; omega, ok'.wf.live⟩, s3, ok'.pn, ok'.ex⟩
theorem be_ixN {i : Nat} (hu : X.A.units + 1 < cLine) (hk : X.K = C.K) (ha : PE X a (tVar i)) (hb : BE X C W b Fb) (hs : PlainIx b) : BE X C W (.Subscript a b pos) (eIxN i Fb) :=
  (pe_ix (ix_A hu) ha hb hs).imp fun σ H Q ⟨e, Hs, fe, P, ok, q⟩ => by
    unfold eIxN at q
    cases h1 : e.sl[i]? with
    | none => rw [h1] at q; exact q.elim
    | some o =>
      cases o with
      | none => rw [h1] at q; exact q.elim
      | some d0 =>
        rw [h1] at q
        obtain ⟨v0, _, _, e1, _⟩ := ok.sl.get h1
        refine ⟨v0, e1, ?_⟩
        refine firstE ok (EndE.bind q) fun y e2 v2 Hs2 H2 fe2 fv2 a2 ok2 r2 q2 => ?_
        obtain ⟨Hs3, a3, ok3, r2', _⟩ := (ok2.fps (fun _ => rfl) (fx' := fun b => fv2 b + f0 b) fun _ => rfl).frzX r2 Held.tr
        have q3 := q2.shift (a2.trans a3)
        cases h2 : e2.sl[i]? with
        | none => rw [h2] at q3; exact q3.elim
        | some o =>
          cases o with
          | none => rw [h2] at q3; exact q3.elim
          | some d =>
            rw [h2] at q3
            dsimp only at q3
            cases hz : refD d (frz y) with
            | none => rw [hz] at q3; exact q3.elim
            | some zd =>
              obtain ⟨z, d'⟩ := zd
              rw [hz] at q3
              obtain ⟨v, f1, f2, e3, r1, e4, ok4, put⟩ := ok3.slot h2
              rw [e1] at e3; cases e3
              rw [hk]
              have simple : (idxD d (frz y)).map (fun z => (z, d)) = some (z, d') → (∀ k o xs, d ≠ .nd k o xs) → rIxA C.K v0 v2 H2 Q := fun h hn => by
                obtain ⟨z', h3, h4⟩ := Option.map_eq_some_iff.mp h
                cases h4
                have hd : d.sc = true := by cases d <;> first | rfl | exact absurd rfl (hn _ _ _)
                refine idxS (G := C.toGc) ok3.sm (r1.f0 hd) r2' h3 fun v Hs5 H5 fv n rz => ?_
                have e5 : { e2 with sl := e2.sl.set i (some d) } = e2 := by
                  have : e2.sl.set i (some d) = e2.sl := by
                    obtain ⟨hl, hv⟩ := List.getElem?_eq_some_iff.mp h2
                    rw [← hv]; exact List.set_getElem_self hl
                  rw [this]
                exact q3 v Hs5 H5 fe2 fv (n.aft ok3) (by
                  show Ok C Hs5 H5 σ { e2 with sl := e2.sl.set i (some d) } fe2 fv P
                  rw [e5]
                  exact (ok3.new n fun _ h => absurd rfl h).fps (fun _ => rfl) fun _ => (Nat.zero_add _).symm) rz
              cases d with
              | nd k o xs =>
                unfold refD at hz
                obtain ⟨j, h3, h4⟩ := Option.bind_eq_some_iff.mp hz
                obtain ⟨x, h5, h6⟩ := Option.map_eq_some_iff.mp h4
                cases h6
                have ok4' : Ok C Hs3 H2 σ { e2 with sl := e2.sl.set i none } f2 f1 P := ok4.fps (fun _ => rfl) fun b => rfl
                obtain ⟨a, vs, u, Hs4, f1', rfl, at_, hl, hu', af, ok5, ru, rn⟩ := ok4'.itemFrz r1 h5
                refine ixCore (G := C.toGc) ok3.sm at_ hl r2' h3 u Q hu' ?_
                exact q3 u Hs4 H2 _ f0 af (put (e' := e2) (ok5.fps (fun _ => rfl) fun b => rfl) rn) ru
              | non => exact simple hz (fun _ _ _ h => by cases h)
              | bl _ => exact simple hz (fun _ _ _ h => by cases h)
              | int _ => exact simple hz (fun _ _ _ h => by cases h)
              | str _ => exact simple hz (fun _ _ _ h => by cases h)
              | ty _ => exact simple hz (fun _ _ _ h => by cases h)
end
end Bx

set_option Elab.async false
set_option linter.all false
set_option maxRecDepth 100000
set_option maxHeartbeats 1000000
/-! Statements. -/
namespace Bx
open PySem L2

def En.put (e : En) (i : Nat) (d : D) : En := { e with sl := e.sl.set i (some d) }
def En.del (e : En) (i : Nat) : En := { e with sl := e.sl.set i none }
/-- targets -/
abbrev FG := D → En → Option En
/-- two frames that differ at ts alone -/
def Tch (ts : List Nat) (σ σ' : L2.St) : Prop := σ'.length = σ.length ∧ ∀ i, i ∉ ts → σ'[i]? = σ[i]?
def canG (C : Cc) (ts : List Nat) (g : FG) : TG := fun v σ H Q => ∃ e Hs fe fv P d e', Ok C Hs H σ e fe fv P ∧ Rp C.toGc Hs H v d fv ∧ g d e = some e' ∧ ∀ σ' Hs' H' fe', Tch ts σ σ' → Aft Hs H Hs' H' P → Ok C Hs' H' σ' e' fe' f0 P → Q σ' H'
def BG (X : Cx) (C : Cc) (tg : Expr) (ts : List Nat) (g : FG) : Prop := PG X tg (canG C ts g)
theorem _root_.L2.PG.imp {X : Cx} {e : Expr} {t t' : TG} (h : PG X e t) (i : ∀ v σ H Q, t' v σ H Q → t v σ H Q) : PG X e t' := ⟨fun pins s σ H v u Q I r q => h.run pins s σ H v u Q I r (i _ _ _ _ q)⟩
def gN (i : Nat) : FG := fun d e => if i < e.sl.length then some (e.put i d) else none
def npin (C : Cc) (i : Nat) : Prop := ∀ p ∈ C.pins, p.1 ≠ i

def fSeq (s t : FS) : FS := fun e => match s e with
  | .nx e1 => t e1
  | r => r
def fNext : FS := fun e => .nx e
def fAsg (g : FG) (a : FE) : FS := fun e => (a e).toS fun d e1 => match g d e1 with
  | some e2 => .nx e2
  | none => .bad
def fIf (c : FT) (t u : FS) : FS := fun e => (c e).toS fun k e1 => if k then t e1 else u e1
def fRet (a : FE) : FS := fun e => (a e).toS fun d e1 => .rt d e1
def fRetN : FS := fun e => .rt .non e
/-- return x: the slot is given away -/
def fRetV (i : Nat) : FS := fun e => match e.sl[i]? with
  | some (some d) => .rt d (e.del i)
  | _ => .bad
def fExpr (a : FE) : FS := fun e => (a e).toS fun _ e1 => .nx e1
def fBreak : FS := fun e => .bk e
def fCont : FS := fun e => .ct e

section
variable {X : Cx} {C : Cc} {W : WX} {pos : Pos} {a b c : Expr} {es : List Expr} {Fa Fb Fc : FE} {Ta : FT} {As : FA} {st : Stmt} {sts : List Stmt} {S T : FS}
/-- a value goes into a slot -/
theorem Ok.put {Hs H : Hp} {σ : L2.St} {e : En} {fe fv fx : Fp} {P : Addr → Prop} {i : Nat} {v : V} {d : D} (ok : Ok C Hs H σ e fe (fun b => fv b + fx b) P) (r : Rp C.toGc Hs H v d fv) (hi : i < e.sl.length) (hp : npin C i) :
    ∃ fe', Ok C Hs H (σ.set i (some v)) (e.put i d) fe' fx P := by
  obtain ⟨f1, f2, h1, s2⟩ := ok.sl.forget i
  have s3 := s2.put (i := i) (h := fun b => fv b + f2 b) (by rw [List.getElem?_set_self hi]) r fun b => rfl
  rw [List.set_set] at s3
  refine ⟨fun b => fv b + f2 b, ⟨ok.wf.sm, fun b => by have := ok.wf.one b; have := h1 b; omega, fun b hb => ok.wf.own b (by have := h1 b; omega), fun b hb => by have := ok.wf.apart b hb; have := h1 b; omega, ok.wf.live⟩, s3, fun p hpp => ?_, ok.ex⟩
  rw [List.getElem?_set_ne (Ne.symm (hp p hpp))]
  exact ok.pn p hpp
theorem Ok.del {Hs H : Hp} {σ : L2.St} {e : En} {fe fx : Fp} {P : Addr → Prop} (i : Nat) (ok : Ok C Hs H σ e fe fx P) : ∃ fe', Ok C Hs H σ (e.del i) fe' fx P := by
  obtain ⟨f1, f2, h1, s2⟩ := ok.sl.forget i
  exact ⟨f2, ⟨ok.wf.sm, fun b => by have := ok.wf.one b; have := h1 b; omega, fun b hb => ok.wf.own b (by have := h1 b; omega), fun b hb => by have := ok.wf.apart b hb; have := h1 b; omega, ok.wf.live⟩, s2, ok.pn, ok.ex⟩
theorem bg_name {i : Nat} (h : PG X a (gName i)) (hp : npin C i) : BG X C a [i] (gN i) := h.imp fun v σ H Q ⟨e, Hs, fe, fv, P, d, e', ok, r, hg, k⟩ => by
  unfold gN at hg
  split at hg
  · rename_i hi
    cases hg
    obtain ⟨fe', ok'⟩ := (ok.fps (fun _ => rfl) (fx' := fun b => fv b + f0 b) fun _ => rfl).put r hi hp
    exact k _ Hs H fe' ⟨List.length_set, fun j hj => List.getElem?_set_ne fun z => hj (List.mem_singleton.mpr z.symm)⟩ (Aft.refl _ _ _) ok'
  · cases hg
theorem bs_asg {tg : Expr} {ts : List Nat} {g : FG} (hp : ∀ te gg, PE X a te → PG X tg gg → PS X st (tAsg te gg)) (ha : BE X C W a Fa) (hg : BG X C tg ts g) : BS X C W st (fAsg g Fa) :=
  (hp _ _ ha hg).imp fun N σ H ⟨e, Hs, fe, P, ok, q⟩ => by
    refine firstE ok (q.bind σ) fun d e1 v Hs1 H1 fe1 fv1 a1 ok1 r1 q1 => ?_
    cases h : g d e1 with
    | none => rw [h] at q1; exact q1.elim
    | some e2 =>
      rw [h] at q1
      exact ⟨e1, Hs1, fe1, fv1, P, d, e2, ok1, r1, h, fun σ' Hs' H' fe' _ a2 ok2 => q1 σ' Hs' H' fe' (a1.trans a2) ok2⟩
theorem bs_set {i : Nat} {x : Str} {pos' : Pos} (hN : X.N.Nodup) (hi : X.N[i]? = some x) (hl : Loc X.env.scope x) (hp : npin C i) (ha : BE X C W a Fa)
    (hs : swapsWith a (some (.Name x pos')) pos.line X.env = pure false) (hf : X.fn x = true ∨ X.env.scope.names.lookup x = some .local) : BS X C W (.Assign [.Name x pos'] a pos) (fAsg (gN i) Fa) :=
  (ps_set hN hi hl ha hs hf).imp fun N σ H ⟨e, Hs, fe, P, ok, q⟩ => by
    refine firstE ok (q.bind σ) fun d e1 v Hs1 H1 fe1 fv1 a1 ok1 r1 q1 => ?_
    unfold gN at q1
    by_cases hi : i < e1.sl.length
    · rw [if_pos hi] at q1
      obtain ⟨fe', ok'⟩ := (ok1.fps (fun _ => rfl) (fx' := fun b => fv1 b + f0 b) fun _ => rfl).put r1 hi hp
      exact q1 _ Hs1 H1 fe' a1 ok'
    · rw [if_neg hi] at q1; exact q1.elim
theorem bs_if {sts' : List Stmt} (hc : BT X C W c Ta) (h1 : BSs X C W sts S) (h2 : BSs X C W sts' T) : BS X C W (.If c sts sts' pos) (fIf Ta S T) :=
  (ps_if hc h1 h2).imp fun N σ H ⟨e, Hs, fe, P, ok, q⟩ => by
    refine firstT ok (q.bind σ) fun k e1 Hs1 H1 fe1 a1 ok1 q1 => ?_
    cases k with
    | true => exact iteT ⟨e1, Hs1, fe1, P, ok1, q1.shift a1⟩
    | false => exact iteF ⟨e1, Hs1, fe1, P, ok1, q1.shift a1⟩
theorem bss_nil : BSs X C W [] fNext := pss_nil.imp fun N σ H ⟨e, Hs, fe, P, ok, q⟩ => q σ Hs H fe (Aft.refl _ _ _) ok
theorem bss_one (h : BS X C W st S) : BSs X C W [st] S := pss_one h
theorem bss_cons (h : BS X C W st S) (h2 : BSs X C W sts T) : BSs X C W (st :: sts) (fSeq S T) :=
  (pss_cons h h2).imp fun N σ H ⟨e, Hs, fe, P, ok, q⟩ => by
    refine ⟨e, Hs, fe, P, ok, ?_⟩
    unfold fSeq at q
    generalize S e = r at q ⊢
    cases r with
    | nx e1 => exact fun σ' Hs' H' fe' a1 ok1 => ⟨e1, Hs', fe', P, ok1, q.shift a1⟩
    | bad => exact q
    | bk e1 => exact q
    | ct e1 => exact q
    | rt d e1 => exact q
    | exc x e1 => exact q
theorem bs_ret (ha : BE X C W a Fa) : BS X C W (.Return (some a) pos) (fRet Fa) :=
  (ps_ret ha).imp fun N σ H ⟨e, Hs, fe, P, ok, q⟩ => by
    refine firstE ok (q.bind σ) fun d e1 v Hs1 H1 fe1 fv1 a1 ok1 r1 q1 => ?_
    exact q1 v σ Hs1 H1 fe1 fv1 a1 ok1 r1
theorem bs_retN : BS X C W (.Return none pos) fRetN :=
  ps_retN.imp fun N σ H ⟨e, Hs, fe, P, ok, q⟩ => q .non σ Hs H fe f0 (Aft.refl _ _ _) ok r_non
theorem bs_retV {i : Nat} (ha : PE X a (tVar i)) : BS X C W (.Return (some a) pos) (fRetV i) :=
  (ps_ret ha).imp fun N σ H ⟨e, Hs, fe, P, ok, q⟩ => by
    unfold fRetV at q
    cases h1 : e.sl[i]? with
    | none => rw [h1] at q; exact q.elim
    | some o =>
      cases o with
      | none => rw [h1] at q; exact q.elim
      | some d =>
        rw [h1] at q
        obtain ⟨v, f1, f2, e1, r1, e2, ok', _⟩ := ok.slot h1
        exact ⟨v, e1, q v σ Hs H f2 f1 (Aft.refl _ _ _) (ok'.fps (fun _ => rfl) fun b => rfl) r1⟩
theorem bs_expr (ha : BE X C W a Fa) (hs : swapsWith a none pos.line X.env = pure false) : BS X C W (.Expr a pos) (fExpr Fa) :=
  (ps_expr ha hs).imp fun N σ H ⟨e, Hs, fe, P, ok, q⟩ => by
    refine firstE ok (q.bind σ) fun d e1 v Hs1 H1 fe1 fv1 a1 ok1 r1 q1 => ?_
    exact q1 σ Hs1 H1 fe1 a1 (ok1.less fun _ => Nat.zero_le _)
theorem bs_pass : BS X C W (.Pass pos) fNext := ps_pass.imp fun N σ H ⟨e, Hs, fe, P, ok, q⟩ => q σ Hs H fe (Aft.refl _ _ _) ok
theorem bs_break : BS X C W (.Break pos) fBreak := ps_break.imp fun N σ H ⟨e, Hs, fe, P, ok, q⟩ => q σ Hs H fe (Aft.refl _ _ _) ok
theorem bs_cont : BS X C W (.Continue pos) fCont := ps_continue.imp fun N σ H ⟨e, Hs, fe, P, ok, q⟩ => q σ Hs H fe (Aft.refl _ _ _) ok
end

/-! ### a, b = .. -/
abbrev FGs := List D → En → Option En
def gsNil : FGs := fun ds e => match ds with
  | [] => some e
  | _ => none
def gsCons (g : FG) (r : FGs) : FGs := fun ds e => match ds with
  | d :: ds => (g d e).bind (r ds)
  | [] => none
def gT (n : Nat) (r : FGs) : FG := fun d e => match frz d with
  | .nd .tup _ xs => if xs.length = n then r xs e else none
  | .nd .wt _ xs => if xs.length = n then r xs e else none
  | _ => none
def canGs (C : Cc) (ts : List Nat) (g : FGs) : TGs := fun vs σ H Q => ∃ e Hs fe P ds e', Ok C Hs H σ e fe f0 P ∧ Rps C.toGc Hs H vs ds f0 ∧ g ds e = some e' ∧ ∀ σ' Hs' H' fe', Tch ts σ σ' → Aft Hs H Hs' H' P → Ok C Hs' H' σ' e' fe' f0 P → Q σ' H'
def BGs (X : Cx) (C : Cc) (tg : List Expr) (ts : List Nat) (g : FGs) : Prop := PGs X tg (canGs C ts g)
theorem _root_.L2.PGs.imp {X : Cx} {e : List Expr} {t t' : TGs} (h : PGs X e t) (i : ∀ v σ H Q, t' v σ H Q → t v σ H Q) : PGs X e t' := ⟨fun pins s σ H v u Q I r q => h.run pins s σ H v u Q I r (i _ _ _ _ q)⟩
section
variable {X : Cx} {C : Cc} {W : WX} {pos : Pos} {a : Expr} {es : List Expr} {g : FG} {gs : FGs}
theorem bgs_nil : BGs X C [] [] gsNil := pgs_nil.imp fun vs σ H Q ⟨e, Hs, fe, P, ds, e', ok, r, hg, k⟩ => by
  cases r with
  | nil z => cases hg; exact ⟨rfl, k σ Hs H fe ⟨rfl, fun _ _ => rfl⟩ (Aft.refl _ _ _) ok⟩
  | cons r rs q => cases hg
theorem bgs_cons {ts us : List Nat} (hg : BG X C a ts g) (hs : BGs X C es us gs) (he : (assignEach (a :: es) X.env).map (·.2) = assign a X.env :: (assignEach es X.env).map (·.2)) : BGs X C (a :: es) (ts ++ us) (gsCons g gs) :=
  (pgs_cons hg hs he).imp fun vs σ H Q ⟨e, Hs, fe, P, ds, e', ok, r, hg, k⟩ => by
    cases r with
    | nil z => cases hg
    | @cons v d f vs ds g' _ r rs q =>
      obtain ⟨e1, h1, h2⟩ := Option.bind_eq_some_iff.mp hg
      have hf : ∀ b, f b = 0 := fun b => by have := q b; simp only [f0] at this; omega
      have hg' : ∀ b, g' b = 0 := fun b => by have := q b; simp only [f0] at this; omega
      refine ⟨v, vs, rfl, e, Hs, fe, f0, P, d, e1, ok, r.fp fun b => (hf b).symm, h1, fun σ1 Hs1 H1 fe1 t1 a1 ok1 => ?_⟩
      exact ⟨e1, Hs1, fe1, P, ds, e', ok1, (rs.mono (H' := H1) a1.sh fun b hb => absurd (hg' b) hb).fp fun b => (hg' b).symm, h2, fun σ' Hs' H' fe' t2 a2 ok2 => k σ' Hs' H' fe' ⟨t2.1.trans t1.1, fun i hi => (t2.2 i fun z => hi (List.mem_append_right _ z)).trans (t1.2 i fun z => hi (List.mem_append_left _ z))⟩ (a1.trans a2) ok2⟩
theorem bg_tup {n kk : Nat} {ts : List Nat} (hc : X.calm = true) (hk : X.K = C.K) (hs : BGs X C es ts gs) (h1 : (assignEach es X.env).length = n) (h2 : (assignEach es X.env).findIdx? (·.1) = none) : BG X C (.Tuple es kk pos) ts (gT n gs) :=
  (pg_tup hc hs h1 h2).imp fun v σ H Q ⟨e, Hs, fe, fv, P, d, e', ok, r, hg, k⟩ => by
    obtain ⟨Hs1, a1, ok1, r1, _⟩ := (ok.fps (fun _ => rfl) (fx' := fun b => fv b + f0 b) fun _ => rfl).freeze r
    unfold gT at hg
    have main : ∀ (b : Bool) xs, (frz d).seq = some (b, xs) → b = false → xs.length = n → gs xs e = some e' → gTup X.K n (canGs C ts gs) v σ H Q := fun b xs hsq hb hl hx => by
      obtain ⟨p, vs, g', rfl, _, hT, rs, le⟩ := r1.seq ok1.sm hsq
      refine ⟨p, vs, rfl, by rw [hk]; exact hT hb, by rw [rs.len]; exact hl, e, Hs1, fe, P, xs, e', ok1, rs.z le, hx, fun σ' Hs' H' fe' t2 a2 ok2 => k σ' Hs' H' fe' t2 (a1.trans a2) ok2⟩
    split at hg
    · rename_i o xs he
      split at hg
      · rename_i hl
        exact main false xs (by rw [he]; rfl) rfl hl hg
      · cases hg
    · rename_i o xs he
      split at hg
      · rename_i hl
        exact main false xs (by rw [he]; rfl) rfl hl hg
      · cases hg
    · cases hg
end
end Bx

set_option Elab.async false
set_option linter.all false
set_option maxRecDepth 100000
set_option maxHeartbeats 1000000
/-! Walks: for, while, list comprehensions. -/
namespace Bx
open PySem L2

abbrev FI := En → Rs (List D)
/-- the walk J gives the items xs as long as the frozen part stands -/
structure JOk (G : Gc) (J : It) (xs : List D) (Hs : Hp) : Prop where
  stop : ∀ Hs2 H2, Same Hs Hs2 → Sm Hs2 H2 → J.stop xs.length H2
  go : ∀ Hs2 H2 i d, Same Hs Hs2 → Sm Hs2 H2 → xs[i]? = some d → J.go i H2
  yld : ∀ Hs2 H2 i d x H', Same Hs Hs2 → Sm Hs2 H2 → xs[i]? = some d → J.yld i H2 x H' → ∃ Hs3, New Hs2 H2 Hs3 H' f0 ∧ Rp G Hs3 H' x d f0
section
variable (C : Cc) (W : WX)
def EndI (r : Rs (List D)) (Hs H : Hp) (P : Addr → Prop) (σ : L2.St) (R : It → Hp → Prop) : Prop := match r with
  | .bad => False
  | .ok xs e' => ∀ J Hs' H' fe', Aft Hs H Hs' H' P → Ok C Hs' H' σ e' fe' f0 P → JOk C.toGc J xs Hs' → R J H'
  | .exc x e' => XcK C W Hs H P σ x e'
def canI (F : FI) : TI := fun σ H R => ∃ e Hs fe P, Ok C Hs H σ e fe f0 P ∧ EndI C W (F e) Hs H P σ R
end
def BI (X : Cx) (C : Cc) (W : WX) (tg e : Expr) (F : FI) : Prop := PI X tg e (canI C W F)
theorem _root_.L2.PI.imp {X : Cx} {tg e : Expr} {t t' : TI} (h : PI X tg e t) (i : ∀ σ H R, t' σ H R → t σ H R) : PI X tg e t' := ⟨fun pins s σ H R I q => h.run pins s σ H R I (i _ _ _ q)⟩
theorem _root_.L2.PI.or {X : Cx} {tg e : Expr} {t t' : TI} (h : PI X tg e t) (h' : PI X tg e t') : PI X tg e (fun σ H R => t σ H R ∨ t' σ H R) :=
  ⟨fun pins s σ H R I q => q.elim (h.run pins s σ H R I) (h'.run pins s σ H R I)⟩

/-- the items of a walked value -/
def itsD : D → Option (List D)
  | .str x => if x.cps.size ≤ lim then some (x.cps.toList.map fun c => .str ⟨#[c]⟩) else none
  | d => (d.seq).map (·.2)
def iE (a : FE) : FI := fun e => (a e).bind fun d e1 => .opt (itsD (frz d)) e1
def rngD (lo : Int) (n : Nat) : List D := (List.range n).map fun (i : Nat) => .int (lo + (i : Int))
/-- range(n), range(a, b) -/
def rngA1 (ds : List D) : Option (List D) := match ds with
  | [.int j] => if j.natAbs < 2 ^ 62 then some (rngD 0 j.toNat) else none
  | _ => none
def rngA2 (ds : List D) : Option (List D) := match ds with
  | [.int i, .int j] => if i.natAbs < 2 ^ 62 ∧ j.natAbs < 2 ^ 62 then some (rngD i (j - i).toNat) else none
  | _ => none
def iRng1 (as : FA) : FI := fun e => (as e).bind fun as e1 => .opt ((dvs as).bind rngA1) e1
def iRng2 (as : FA) : FI := fun e => (as e).bind fun as e1 => .opt ((dvs as).bind rngA2) e1
/-- enumerate of a list -/
def enumD (n : Nat) : List D → List D
  | [] => []
  | x :: xs => .nd .tup false [.int n, x] :: enumD (n + 1) xs
def iEnu (as : FA) : FI := fun e => (as e).bind fun as e1 => .opt ((dvs as).bind fun ds => match frzs ds with
  | [d] => (match d.seq with
    | some (true, xs) => some (enumD 0 xs)
    | _ => none)
  | _ => none) e1

/-- the turns of a for -/
def forL (g : FG) (body : FS) : List D → FS
  | [], e => .nx e
  | x :: xs, e => match g x e with
    | none => .bad
    | some e1 => match body e1 with
      | .nx e2 => forL g body xs e2
      | .ct e2 => forL g body xs e2
      | .bk e2 => .nx e2
      | r => r
def fFor (it : FI) (g : FG) (body : FS) : FS := fun e => (it e).toS fun xs e1 => forL g body xs e1
/-- the turns of a while, at most n -/
def whN (c : FT) (body : FS) : Nat → FS
  | 0, _ => .bad
  | n + 1, e => (c e).toS fun k e1 => if k then (match body e1 with
      | .nx e2 => whN c body n e2
      | .ct e2 => whN c body n e2
      | .bk e2 => .nx e2
      | r => r) else .nx e1
open Classical in
noncomputable def fWh (c : FT) (body : FS) : FS := fun e => if h : ∃ n, whN c body n e ≠ .bad then whN c body h.choose e else .bad
/-- what must not raise -/
def Rs.nox {α : Type} (r : Rs α) : Rs α := match r with
  | .exc _ _ => .bad
  | r => r
def delL (e : En) : List Nat → En
  | [] => e
  | v :: vs => (delL e vs).del v
/-- the turns of a list comprehension -/
def lcL (vs : List Nat) (g : FG) (tt : FT) (el : FE) : List D → List D → En → Rs (List D)
  | [], acc, e => .ok acc e
  | x :: xs, acc, e => match g x e with
    | none => .bad
    | some e1 => (tt e1).nox.bind fun k e2 => if k then (el e2).nox.bind fun y e3 => (if acc.length < lim then lcL vs g tt el xs (acc ++ [y]) (delL e3 vs) else .bad) else lcL vs g tt el xs acc (delL e2 vs)
def eLc (vs : List Nat) (it : FI) (g : FG) (tt : FT) (el : FE) : FE := fun e => (it e).bind fun xs e1 => (lcL vs g tt el xs [] (delL e1 vs)).bind fun acc e2 => .ok (.nd .lst true acc) e2
def tYesF : FT := fun e => .ok true e

section
variable {X : Cx} {C : Cc} {W : WX} {pos : Pos} {a b c tg : Expr} {es : List Expr} {Fa Fb Fc : FE} {Ta : FT} {As : FA} {st : Stmt} {sts : List Stmt} {S T : FS}
theorem EndI.bind {α : Type} {r : Rs α} {k : α → En → Rs (List D)} {Hs H : Hp} {P : Addr → Prop} {σ : L2.St} {R : It → Hp → Prop} (h : EndI C W (r.bind k) Hs H P σ R) : EndZ C W r Hs H P σ fun d e' => r = .ok d e' ∧ EndI C W (k d e') Hs H P σ R := by
  cases r with
  | bad => exact h
  | ok d e' => exact ⟨rfl, h⟩
  | exc x e' => exact h
theorem EndI.shift {r : Rs (List D)} {Hs H Hs' H' : Hp} {P : Addr → Prop} {σ : L2.St} {R : It → Hp → Prop} (h : EndI C W r Hs H P σ R) (a : Aft Hs H Hs' H' P) : EndI C W r Hs' H' P σ R := by
  cases r with
  | bad => exact h
  | ok d e' => exact fun J H2s H2 fe' b ok j => h J H2s H2 fe' (a.trans b) ok j
  | exc x e' => exact XcK.shift h a
/-- frozen items stand in the frozen part -/
theorem rp_seqS {G : Gc} {Hs H : Hp} {v : V} {d : D} {b : Bool} {xs : List D} (r : Rp G Hs H v d f0) (h : d.seq = some (b, xs)) :
    ∃ p vs, v = .ref p ∧ (b = true → SqL G.K Hs p vs) ∧ (b = false → SqT G.K Hs p vs) ∧ Rps G Hs H vs xs f0 := by
  cases r with
  | @sh p k vs _ _ h1 rs z =>
    refine ⟨p, vs, rfl, ?_⟩
    cases k with
    | lst => cases h; exact ⟨fun _ => SqL.of h1, (fun z => nomatch z), rs⟩
    | wl => cases h; exact ⟨fun _ => h1, (fun z => nomatch z), rs⟩
    | tup => cases h; exact ⟨(fun z => nomatch z), fun _ => SqT.of h1, rs⟩
    | wt => cases h; exact ⟨(fun z => nomatch z), fun _ => h1, rs⟩
    | _ => cases h
  | own _ _ _ _ e => have := e ‹Addr›; rw [if_pos rfl] at this; simp only [f0] at this; omega
  | _ => cases h
theorem jok_seqL {G : Gc} {Hs H : Hp} {p : Addr} {vs : List V} {xs : List D} (h : SqL G.K Hs p vs) (rs : Rps G Hs H vs xs f0) : (∀ Hs2 H2, Same Hs Hs2 → Sm Hs2 H2 → SqL G.K H2 p vs) ∧ ∀ Hs2 H2, Same Hs Hs2 → Rps G Hs2 H2 vs xs f0 :=
  ⟨fun Hs2 H2 s m => m.sqL (Same.seq s h), fun Hs2 H2 s => rs.mono s fun b hb => absurd rfl hb⟩
theorem jok_seqT {G : Gc} {Hs H : Hp} {p : Addr} {vs : List V} {xs : List D} (h : SqT G.K Hs p vs) (rs : Rps G Hs H vs xs f0) : (∀ Hs2 H2, Same Hs Hs2 → Sm Hs2 H2 → SqT G.K H2 p vs) ∧ ∀ Hs2 H2, Same Hs Hs2 → Rps G Hs2 H2 vs xs f0 :=
  ⟨fun Hs2 H2 s m => m.sqT (Same.seqT s h), fun Hs2 H2 s => rs.mono s fun b hb => absurd rfl hb⟩
theorem jok_list {G : Gc} {Hs : Hp} {p : Addr} {vs : List V} {xs : List D} (h : ∀ Hs2 H2, Same Hs Hs2 → Sm Hs2 H2 → SqL G.K H2 p vs) (rs : ∀ Hs2 H2, Same Hs Hs2 → Rps G Hs2 H2 vs xs f0) : JOk G (Itl G.K p) xs Hs := by
  refine ⟨fun Hs2 H2 s m => ⟨vs, h _ _ s m, Nat.le_of_eq (rs Hs2 H2 s).len⟩, fun Hs2 H2 i d s m e => ?_, fun Hs2 H2 i d x H' s m e y => ?_⟩
  · obtain ⟨v, hv, _⟩ := (rs Hs2 H2 s).at e
    exact ⟨vs, v, h _ _ s m, hv⟩
  · obtain ⟨rfl, k⟩ := y
    obtain ⟨v, hv, rv⟩ := (rs Hs2 H' s).at e
    have := k vs (h _ _ s m)
    rw [hv] at this; cases this
    exact ⟨Hs2, New.refl m, rv⟩
theorem jok_tup {G : Gc} {Hs : Hp} {p : Addr} {vs : List V} {xs : List D} (h : ∀ Hs2 H2, Same Hs Hs2 → Sm Hs2 H2 → SqT G.K H2 p vs) (rs : ∀ Hs2 H2, Same Hs Hs2 → Rps G Hs2 H2 vs xs f0) : JOk G (Itt G.K p) xs Hs := by
  refine ⟨fun Hs2 H2 s m => ⟨vs, h _ _ s m, Nat.le_of_eq (rs Hs2 H2 s).len⟩, fun Hs2 H2 i d s m e => ?_, fun Hs2 H2 i d x H' s m e y => ?_⟩
  · obtain ⟨v, hv, _⟩ := (rs Hs2 H2 s).at e
    exact ⟨vs, v, h _ _ s m, hv⟩
  · obtain ⟨rfl, k⟩ := y
    obtain ⟨v, hv, rv⟩ := (rs Hs2 H' s).at e
    have := k vs (h _ _ s m)
    rw [hv] at this; cases this
    exact ⟨Hs2, New.refl m, rv⟩
theorem jok_rng {G : Gc} {Hs : Hp} {lo : Int} {n : Nat} : JOk G (Itr lo n) (rngD lo n) Hs := by
  have el : (rngD lo n).length = n := by unfold rngD; rw [List.length_map, List.length_range]
  refine ⟨fun Hs2 H2 s m => by rw [el]; exact Nat.le_refl _, fun Hs2 H2 i d s m e => ?_, fun Hs2 H2 i d x H' s m e y => ?_⟩
  · have := (List.getElem?_eq_some_iff.mp e).1
    rw [el] at this; exact this
  · obtain ⟨rfl, rfl⟩ := y
    have hi := (List.getElem?_eq_some_iff.mp e).1
    rw [el] at hi
    have : (rngD lo n)[i]? = some (.int (lo + i)) := by
      unfold rngD
      rw [List.getElem?_map, List.getElem?_range hi]; rfl
    rw [this] at e; cases e
    exact ⟨Hs2, New.refl m, r_int _⟩
theorem jok_str {G : Gc} {Hs : Hp} {x : Str} : JOk G (Its x) (x.cps.toList.map fun c => .str ⟨#[c]⟩) Hs := by
  refine ⟨fun Hs2 H2 s m => by rw [List.length_map, Array.length_toList]; exact Nat.le_refl _, fun Hs2 H2 i d s m e => ?_, fun Hs2 H2 i d v H' s m e y => ?_⟩
  · have := (List.getElem?_eq_some_iff.mp e).1
    rw [List.length_map, Array.length_toList] at this; exact this
  · obtain ⟨rfl, c, hc, rfl⟩ := y
    rw [List.getElem?_map, Array.getElem?_toList, hc] at e
    cases e
    exact ⟨Hs2, New.refl m, r_str _⟩
theorem enumD_get : ∀ {xs : List D} {n i : Nat}, (enumD n xs)[i]? = (xs[i]?).map fun x => D.nd .tup false [.int (n + i : Nat), x]
  | [], n, i => by simp [enumD]
  | x :: xs, n, 0 => by simp [enumD]
  | x :: xs, n, i + 1 => by
    unfold enumD
    rw [List.getElem?_cons_succ, List.getElem?_cons_succ, enumD_get (xs := xs) (n := n + 1)]
    have : n + 1 + i = n + (i + 1) := by omega
    rw [this]
theorem enumD_len : ∀ {xs : List D} {n : Nat}, (enumD n xs).length = xs.length
  | [], _ => rfl
  | x :: xs, n => by unfold enumD; rw [List.length_cons, List.length_cons, enumD_len]
theorem jok_enum {G : Gc} {Hs : Hp} {p : Addr} {vs : List V} {xs : List D} (h : ∀ Hs2 H2, Same Hs Hs2 → Sm Hs2 H2 → SqL G.K H2 p vs) (rs : ∀ Hs2 H2, Same Hs Hs2 → Rps G Hs2 H2 vs xs f0) : JOk G (Ite G.K p) (enumD 0 xs) Hs := by
  refine ⟨fun Hs2 H2 s m => ⟨vs, h _ _ s m, by rw [enumD_len]; exact Nat.le_of_eq (rs Hs2 H2 s).len⟩, fun Hs2 H2 i d s m e => ?_, fun Hs2 H2 i d x H' s m e y => ?_⟩
  · rw [enumD_get] at e
    obtain ⟨x, hx, _⟩ := Option.map_eq_some_iff.mp e
    obtain ⟨v, hv, _⟩ := (rs Hs2 H2 s).at hx
    exact ⟨vs, v, h _ _ s m, hv⟩
  · rw [enumD_get] at e
    obtain ⟨z, hz, rfl⟩ := Option.map_eq_some_iff.mp e
    obtain ⟨T, w, rfl, nT, rfl, k⟩ := y
    obtain ⟨v, hv, rv⟩ := (rs Hs2 H2 s).at hz
    have := k vs (h _ _ s m)
    rw [hv] at this; cases this
    refine ⟨_, New.mkS m nT, newTup m nT ?_⟩
    rw [Nat.zero_add]
    exact .cons (r_int _) (.cons rv (.nil (f := f0) fun _ => rfl) fun _ => rfl) fun _ => rfl

theorem bi_E (hk : X.K = C.K) (ha : BE X C W a Fa) : BI X C W tg a (iE Fa) :=
  (PI.or (PI.or (pi_list ha) (pi_tup ha)) (pi_str ha)).imp fun σ H R ⟨e, Hs, fe, P, ok, q⟩ => by
    have qz := EndI.bind q
    -- what a gives tells which walk it is
    have cases3 : (∃ d e1, Fa e = .ok d e1 ∧ ∃ x, frz d = .str x) ∨ (∃ d e1, Fa e = .ok d e1 ∧ ∃ xs, (frz d).seq = some (false, xs)) ∨ ∀ d e1, Fa e = .ok d e1 → (∀ x, frz d ≠ .str x) ∧ ∀ xs, (frz d).seq ≠ some (false, xs) := by
      cases h : Fa e with
      | bad => exact .inr (.inr fun d e1 z => by cases z)
      | exc x e1 => exact .inr (.inr fun d e1 z => by cases z)
      | ok d e1 =>
        by_cases h1 : ∃ x, frz d = .str x
        · exact .inl ⟨d, e1, rfl, h1⟩
        · by_cases h2 : ∃ xs, (frz d).seq = some (false, xs)
          · exact .inr (.inl ⟨d, e1, rfl, h2⟩)
          · refine .inr (.inr fun d' e1' z => ?_)
            cases z
            exact ⟨fun x z => h1 ⟨x, z⟩, fun xs z => h2 ⟨xs, z⟩⟩
    rcases cases3 with ⟨d0, e0, h0, x0, hx0⟩ | ⟨d0, e0, h0, xs0, hx0⟩ | hno
    · refine .inr (firstE ok qz fun d e1 v Hs1 H1 fe1 fv1 a1 ok1 r1 ⟨hd, q1⟩ => ?_)
      rw [h0] at hd; cases hd
      obtain ⟨Hs3, a3, ok3, r3, _⟩ := (ok1.fps (fun _ => rfl) (fx' := fun b => fv1 b + f0 b) fun _ => rfl).freeze r1
      have q3 := q1.shift (a1.trans a3)
      rw [hx0] at q3 r3
      unfold itsD at q3
      dsimp only at q3
      by_cases hl : x0.cps.size ≤ lim
      · rw [if_pos hl] at q3
        exact ⟨x0, r3.toS, q3 _ Hs3 H1 fe1 (Aft.refl _ _ _) ok3 jok_str⟩
      · rw [if_neg hl] at q3; exact q3.elim
    · refine .inl (.inr (firstE ok qz fun d e1 v Hs1 H1 fe1 fv1 a1 ok1 r1 ⟨hd, q1⟩ => ?_))
      rw [h0] at hd; cases hd
      obtain ⟨Hs3, a3, ok3, r3, _⟩ := (ok1.fps (fun _ => rfl) (fx' := fun b => fv1 b + f0 b) fun _ => rfl).freeze r1
      have q3 := q1.shift (a1.trans a3)
      obtain ⟨p, vs, rfl, _, hT, rs⟩ := rp_seqS r3 hx0
      have hi : itsD (frz d0) = some xs0 := by
        unfold itsD
        split
        · rename_i x hx; rw [hx] at hx0; cases hx0
        · rw [hx0]; rfl
      rw [hi] at q3
      obtain ⟨j1, j2⟩ := jok_seqT (hT rfl) rs
      refine ⟨p, rfl, ⟨vs, by rw [hk]; exact j1 _ _ (Same.refl _) ok3.sm⟩, q3 _ Hs3 H1 fe1 (Aft.refl _ _ _) ok3 ?_⟩
      rw [hk]
      exact jok_tup (G := C.toGc) j1 j2
    · refine .inl (.inl (firstE ok qz fun d e1 v Hs1 H1 fe1 fv1 a1 ok1 r1 ⟨hd, q1⟩ => ?_))
      obtain ⟨n1, n2⟩ := hno d e1 hd
      obtain ⟨Hs3, a3, ok3, r3, _⟩ := (ok1.fps (fun _ => rfl) (fx' := fun b => fv1 b + f0 b) fun _ => rfl).freeze r1
      have q3 := q1.shift (a1.trans a3)
      have hi : itsD (frz d) = ((frz d).seq).map (·.2) := by
        unfold itsD
        split
        · rename_i x hx; exact absurd hx (n1 x)
        · rfl
      rw [hi] at q3
      cases hs : (frz d).seq with
      | none => rw [hs] at q3; exact q3.elim
      | some bx =>
        obtain ⟨b, xs⟩ := bx
        cases b with
        | false => exact absurd hs (n2 xs)
        | true =>
          rw [hs] at q3
          obtain ⟨p, vs, rfl, hL, _, rs⟩ := rp_seqS r3 hs
          obtain ⟨j1, j2⟩ := jok_seqL (hL rfl) rs
          refine ⟨p, rfl, ⟨vs, by rw [hk]; exact j1 _ _ (Same.refl _) ok3.sm⟩, q3 _ Hs3 H1 fe1 (Aft.refl _ _ _) ok3 ?_⟩
          rw [hk]
          exact jok_list (G := C.toGc) j1 j2
theorem Rps.int1 {G : Gc} {Hs H : Hp} {vs : List V} {i : Int} {f : Fp} (r : Rps G Hs H vs [.int i] f) : vs = [.int i] := by
  cases r with | cons r rs _ => cases rs with | nil _ => rw [r.toI]
theorem Rps.int2 {G : Gc} {Hs H : Hp} {vs : List V} {i j : Int} {f : Fp} (r : Rps G Hs H vs [.int i, .int j] f) : vs = [.int i, .int j] := by
  cases r with | cons r rs _ => rw [r.toI, rs.int1]
theorem bi_rng1 {p ppos : Pos} (hg : Gl X "range") (hm : X.mg "range" = none) (ha : BA X C W [a] As) (h1 : starEach [a] X.env = [(false, eval a X.env)]) : BI X C W tg (.Call (.Name "range" p) [a] [] ppos) (iRng1 As) :=
  (pi_range1 hg hm ha h1).imp fun σ H R ⟨e, Hs, fe, P, ok, q⟩ => by
    refine firstA ok (EndI.bind q) fun as e1 vs Hs1 H1 fe1 fv1 a1 ok1 r1 ⟨_, q1⟩ => ?_
    cases h : (dvs as).bind rngA1 with
    | none => rw [h] at q1; exact q1.elim
    | some z =>
      rw [h] at q1
      obtain ⟨ds, h1, h2⟩ := Option.bind_eq_some_iff.mp h
      unfold rngA1 at h2
      split at h2
      · rename_i j
        split at h2
        · rename_i hb
          cases h2
          have rv := (r1.vals h1).int1
          exact ⟨j, rv, by omega, by omega, q1 _ Hs1 H1 fe1 a1 (ok1.less fun _ => Nat.zero_le _) jok_rng⟩
        · cases h2
      · cases h2
theorem bi_rng2 {p ppos : Pos} (hg : Gl X "range") (hm : X.mg "range" = none) (ha : BA X C W [a, b] As) (h1 : starEach [a, b] X.env = [(false, eval a X.env), (false, eval b X.env)]) (h2 : starEach [b] X.env = [(false, eval b X.env)]) : BI X C W tg (.Call (.Name "range" p) [a, b] [] ppos) (iRng2 As) :=
  (pi_range2 hg hm ha h1 h2).imp fun σ H R ⟨e, Hs, fe, P, ok, q⟩ => by
    refine firstA ok (EndI.bind q) fun as e1 vs Hs1 H1 fe1 fv1 a1 ok1 r1 ⟨_, q1⟩ => ?_
    cases h : (dvs as).bind rngA2 with
    | none => rw [h] at q1; exact q1.elim
    | some z =>
      rw [h] at q1
      obtain ⟨ds, h1, h2⟩ := Option.bind_eq_some_iff.mp h
      unfold rngA2 at h2
      split at h2
      · rename_i i j
        split at h2
        · rename_i hb
          cases h2
          have rv := (r1.vals h1).int2
          exact ⟨i, j, rv, ⟨by omega, by omega, by omega, by omega⟩, q1 _ Hs1 H1 fe1 a1 (ok1.less fun _ => Nat.zero_le _) jok_rng⟩
        · cases h2
      · cases h2
theorem bi_enum {p ppos tpos : Pos} {elts : List Expr} {kk : Nat} (hk : X.K = C.K) (hg : Gl X "enumerate") (hm : X.mg "enumerate" = none) (ha : BA X C W [a] As) (h1 : starEach [a] X.env = [(false, eval a X.env)]) :
    BI X C W (.Tuple elts kk tpos) (.Call (.Name "enumerate" p) [a] [] ppos) (iEnu As) :=
  (pi_enum hg hm ha h1).imp fun σ H R ⟨e, Hs, fe, P, ok, q⟩ => by
    refine firstA ok (EndI.bind q) fun as e1 vs Hs1 H1 fe1 fv1 a1 ok1 r1 ⟨_, q1⟩ => ?_
    cases h : ((dvs as).bind fun ds => match frzs ds with
      | [d] => (match d.seq with
        | some (true, xs) => some (enumD 0 xs)
        | _ => none)
      | _ => none) with
    | none => rw [h] at q1; exact q1.elim
    | some z =>
      rw [h] at q1
      obtain ⟨ds, h1, h2⟩ := Option.bind_eq_some_iff.mp h
      obtain ⟨Hs3, a3, ok3, r3⟩ := ok1.freezes (r1.vals h1)
      have q3 := q1.shift (a1.trans a3)
      split at h2
      · rename_i d hd
        split at h2
        · rename_i xs hs
          cases h2
          rw [hd] at r3
          obtain ⟨v, rfl, rv⟩ := r3.one
          obtain ⟨p, ws, rfl, hL, _, rs⟩ := rp_seqS rv hs
          obtain ⟨j1, j2⟩ := jok_seqL (hL rfl) rs
          refine ⟨p, ws, rfl, by rw [hk]; exact j1 _ _ (Same.refl _) ok3.sm, q3 _ Hs3 H1 fe1 (Aft.refl _ _ _) ok3 ?_⟩
          rw [hk]
          exact jok_enum (G := C.toGc) j1 j2
        · cases h2
      · cases h2

theorem EndS.bindI {r : Rs (List D)} {k : List D → En → So} {Hs H : Hp} {P : Addr → Prop} {N : Ends} {σ : L2.St} {R : It → Hp → Prop} (h : EndS C W (r.toS k) Hs H P N)
    (hR : ∀ J xs e' Hs' H' fe', Aft Hs H Hs' H' P → Ok C Hs' H' σ e' fe' f0 P → JOk C.toGc J xs Hs' → EndS C W (k xs e') Hs' H' P N → R J H') : EndI C W r Hs H P σ R := by
  cases r with
  | bad => exact h
  | ok xs e' => exact fun J Hs' H' fe' a ok j => hR J xs e' Hs' H' fe' a ok j (h.shift a)
  | exc x e' => exact fun dd H2s H2 fe' b ok ex => h dd σ H2s H2 fe' b ok ex
/-- an item comes: the state behind it -/
theorem Ok.yld {J : It} {xs : List D} {Hs1 Hs H H' : Hp} {σ : L2.St} {e : En} {fe : Fp} {P : Addr → Prop} {i : Nat} {d : D} {x : V} (ok : Ok C Hs H σ e fe f0 P) (j : JOk C.toGc J xs Hs1) (s : Same Hs1 Hs) (hd : xs[i]? = some d) (y : J.yld i H x H') :
    ∃ Hs', Aft Hs H Hs' H' P ∧ Ok C Hs' H' σ e fe f0 P ∧ Rp C.toGc Hs' H' x d f0 := by
  obtain ⟨Hs3, n, r⟩ := j.yld Hs H i d x H' s ok.sm hd y
  exact ⟨Hs3, n.aft ok, (ok.new n fun _ h => absurd rfl h).fps (fun _ => rfl) fun _ => rfl, r⟩
theorem bs_for {body : List Stmt} {It : FI} {ts : List Nat} {g : FG} (hp : PassesOwn (model X.prog X.w) X.A X.env X.xe) (hc : X.calm = true) (hi : BI X C W tg a It) (hg : BG X C tg ts g) (hb : BSs X C W body S) (hf : ∀ x, foldedSetIterable a X.env x = pure x) :
    BS X C W (.For tg a body [] pos) (fFor It g S) :=
  (ps_for hp hc hi hg hb hf).imp fun N σ H ⟨e, Hs, fe, P, ok, q⟩ => by
    refine ⟨e, Hs, fe, P, ok, EndS.bindI q fun J xs e1 Hs1 H1 fe1 a1 ok1 j q1 => ?_⟩
    refine ⟨fun i m σ' H' => i + m = xs.length ∧ ∃ e' Hs' fe', Aft Hs1 H1 Hs' H' P ∧ Ok C Hs' H' σ' e' fe' f0 P ∧ EndS C W (forL g S (xs.drop i) e') Hs' H' P N, ⟨xs.length, by omega, e1, Hs1, fe1, Aft.refl _ _ _, ok1, q1⟩, ?_⟩
    rintro i m σ' H' ⟨hm, e', Hs', fe', a2, ok2, q2⟩
    by_cases hlt : i < xs.length
    · obtain ⟨d, hd⟩ : ∃ d, xs[i]? = some d := ⟨_, List.getElem?_eq_getElem hlt⟩
      have ed : xs.drop i = d :: xs.drop (i + 1) := by
        rw [List.drop_eq_getElem_cons hlt]
        rw [List.getElem?_eq_getElem hlt] at hd
        rw [Option.some.inj hd]
      rw [ed] at q2
      unfold forL at q2
      refine .inr ⟨j.go Hs' H' i d a2.sh ok2.sm hd, fun σ'' H'' => i + 1 + (m - 1) = xs.length ∧ ∃ e' Hs' fe', Aft Hs1 H1 Hs' H'' P ∧ Ok C Hs' H'' σ'' e' fe' f0 P ∧ EndS C W (forL g S (xs.drop (i + 1)) e') Hs' H'' P N, fun σ'' H'' h => ⟨m - 1, by omega, h⟩, fun x H'' y => ?_⟩
      obtain ⟨Hs3, a3, ok3, r3⟩ := ok2.yld j a2.sh hd y
      have q3 := q2.shift a3
      cases hgx : g d e' with
      | none => rw [hgx] at q3; exact q3.elim
      | some e4 =>
        rw [hgx] at q3
        dsimp only at q3
        refine ⟨e', Hs3, fe', f0, P, d, e4, ok3, r3, hgx, fun σ5 Hs5 H5 fe5 _ a5 ok5 => ⟨e4, Hs5, fe5, P, ok5, ?_⟩⟩
        have q5 := q3.shift a5
        have a6 : Aft Hs1 H1 Hs5 H5 P := (a2.trans a3).trans a5
        generalize S e4 = r at q5 ⊢
        cases r with
        | bad => exact q5
        | nx e6 => exact fun σ7 Hs7 H7 fe7 a7 ok7 => ⟨by omega, e6, Hs7, fe7, a6.trans a7, ok7, q5.shift a7⟩
        | ct e6 => exact fun σ7 Hs7 H7 fe7 a7 ok7 => ⟨by omega, e6, Hs7, fe7, a6.trans a7, ok7, q5.shift a7⟩
        | bk e6 => exact q5
        | rt d6 e6 => exact q5
        | exc x6 e6 => exact q5
    · have ei : i = xs.length := by omega
      subst ei
      rw [List.drop_length] at q2
      exact .inl ⟨j.stop Hs' H' a2.sh ok2.sm, q2 σ' Hs' H' fe' (Aft.refl _ _ _) ok2⟩
theorem bs_while {body : List Stmt} (hp : PassesOwn (model X.prog X.w) X.A X.env X.xe) (hc : BT X C W c Ta) (hb : BSs X C W body S) : BS X C W (.While c body [] pos) (fWh Ta S) :=
  (ps_while hp hc hb).imp fun N σ H ⟨e, Hs, fe, P, ok, q⟩ => by
    unfold fWh at q
    by_cases hex : ∃ n, whN Ta S n e ≠ .bad
    · rw [dif_pos hex] at q
      generalize hex.choose = n at q
      refine ⟨fun m σ' H' => ∃ e' Hs' fe', Aft Hs H Hs' H' P ∧ Ok C Hs' H' σ' e' fe' f0 P ∧ EndS C W (whN Ta S m e') Hs' H' P N, ⟨n, e, Hs, fe, Aft.refl _ _ _, ok, q⟩, ?_⟩
      rintro m σ' H' ⟨e', Hs', fe', a2, ok2, q2⟩
      cases m with
      | zero => exact q2.elim
      | succ m =>
        unfold whN at q2
        refine firstT ok2 (q2.bind σ') fun k e3 Hs3 H3 fe3 a3 ok3 q3 => ?_
        have q4 := q3.shift a3
        have a6 := a2.trans a3
        cases k with
        | false => exact iteF (q4 σ' Hs3 H3 fe3 (Aft.refl _ _ _) ok3)
        | true =>
          rw [if_pos rfl] at q4
          refine iteT ⟨fun σ'' H'' => ∃ e' Hs' fe', Aft Hs H Hs' H'' P ∧ Ok C Hs' H'' σ'' e' fe' f0 P ∧ EndS C W (whN Ta S m e') Hs' H'' P N, fun σ'' H'' h => ⟨m, Nat.lt_succ_self _, h⟩, e3, Hs3, fe3, P, ok3, ?_⟩
          generalize S e3 = r at q4 ⊢
          cases r with
          | bad => exact q4
          | nx e6 => exact fun σ7 Hs7 H7 fe7 a7 ok7 => ⟨e6, Hs7, fe7, a6.trans a7, ok7, q4.shift a7⟩
          | ct e6 => exact fun σ7 Hs7 H7 fe7 a7 ok7 => ⟨e6, Hs7, fe7, a6.trans a7, ok7, q4.shift a7⟩
          | bk e6 => exact q4
          | rt d6 e6 => exact q4
          | exc x6 e6 => exact q4
    · rw [dif_neg hex] at q; exact q.elim
theorem whN_succ {c : FT} {body : FS} : ∀ {n : Nat} {e : En} {r : So}, whN c body n e = r → r ≠ .bad → whN c body (n + 1) e = r
  | 0, e, r, h, hr => absurd h.symm hr
  | n + 1, e, r, h, hr => by
    unfold whN at h ⊢
    cases hc : c e with
    | bad => rw [hc] at h; exact h
    | exc x e1 => rw [hc] at h; exact h
    | ok k e1 =>
      rw [hc] at h
      cases k with
      | false => exact h
      | true =>
        simp only [Rs.toS, if_true] at h ⊢
        cases hb : body e1 with
        | nx e2 => rw [hb] at h; exact whN_succ h hr
        | ct e2 => rw [hb] at h; exact whN_succ h hr
        | _ => rw [hb] at h; exact h
theorem whN_add {c : FT} {body : FS} {n : Nat} {e : En} {r : So} (h : whN c body n e = r) (hr : r ≠ .bad) : ∀ k, whN c body (n + k) e = r
  | 0 => h
  | k + 1 => whN_succ (whN_add h hr k) hr
/-- a while that ends -/
theorem fWh_of {c : FT} {body : FS} {n : Nat} {e : En} {r : So} (h : whN c body n e = r) (hr : r ≠ .bad) : fWh c body e = r := by
  have hex : ∃ n, whN c body n e ≠ .bad := ⟨n, by rw [h]; exact hr⟩
  unfold fWh
  rw [dif_pos hex]
  have h1 := hex.choose_spec
  generalize hex.choose = m at h1 ⊢
  have a := whN_add h hr m
  have b := whN_add (rfl : whN c body m e = _) h1 n
  rw [Nat.add_comm] at b
  rw [← b, a]
end
end Bx

set_option Elab.async false
set_option linter.all false
set_option maxRecDepth 100000
set_option maxHeartbeats 1000000
/-! List comprehensions. -/
namespace Bx
open PySem L2

theorem wipe_at {σ : L2.St} {i : Nat} : ∀ {vs : List Nat}, i ∈ vs → i < σ.length → (wipe σ vs)[i]? = some none
  | [], h, _ => by cases h
  | v :: vs, h, hl => by
    unfold wipe
    by_cases e : v = i
    · rw [e, List.getElem?_set_self (by rw [wipe_length]; exact hl)]
    · rw [List.getElem?_set_ne e]
      rcases List.mem_cons.mp h with z | z
      · exact absurd z.symm e
      · exact wipe_at z hl
theorem wipe_tch {σ σ2 : L2.St} {ts vs : List Nat} (t : Tch ts (wipe σ vs) σ2) (h : ∀ i ∈ ts, i ∈ vs) : wipe σ2 vs = wipe σ vs := by
  apply List.ext_getElem?
  intro i
  have hl : σ2.length = σ.length := t.1.trans (wipe_length σ vs)
  by_cases hi : i ∈ vs
  · by_cases hlt : i < σ.length
    · rw [wipe_at hi hlt, wipe_at hi (by omega)]
    · rw [List.getElem?_eq_none (by rw [wipe_length]; omega), List.getElem?_eq_none (by rw [wipe_length]; omega)]
  · rw [wipe_out hi]
    exact t.2 i fun z => hi (h i z)
theorem delL_len (e : En) : ∀ vs : List Nat, (delL e vs).sl.length = e.sl.length
  | [] => rfl
  | v :: vs => by unfold delL En.del; rw [List.length_set]; exact delL_len e vs
theorem delL_at {e : En} {i : Nat} : ∀ {vs : List Nat}, i ∈ vs → ∀ d, (delL e vs).sl[i]? ≠ some (some d)
  | [], h, _ => by cases h
  | v :: vs, h, d => by
    unfold delL En.del
    by_cases e' : v = i
    · subst e'
      by_cases hl : v < (delL e vs).sl.length
      · rw [List.getElem?_set_self hl]; intro z; cases z
      · rw [List.getElem?_eq_none (by rw [List.length_set]; omega)]; intro z; cases z
    · rw [List.getElem?_set_ne e']
      rcases List.mem_cons.mp h with z | z
      · exact absurd z.symm e'
      · exact delL_at z d
section
variable {G : Gc} {Hs H : Hp}
theorem Sls.any : ∀ {σ σ2 : L2.St} {E : List (Option D)} {f : Fp}, Sls G Hs H σ E f → σ2.length = σ.length → (∀ (i : Nat) (d : D), E[i]? = some (some d) → σ2[i]? = σ[i]?) → Sls G Hs H σ2 E f
  | _, [], _, _, .nil z, _, _ => .nil z
  | _, _ :: _, _, _, .nil z, h, _ => by cases h
  | _, [], _, _, .no r, h, _ => by cases h
  | _, o :: σ2, _, _, .no r, h, k => .no (Sls.any r (by simpa using h) fun i d e => by simpa using k (i + 1) d (by simpa using e))
  | _, [], _, _, .yes r rs q, h, _ => by cases h
  | _, o :: σ2, _, _, .yes (d := d) r rs q, h, k => by
    have h0 := k 0 d rfl
    simp at h0; subst h0
    exact .yes r (Sls.any rs (by simpa using h) fun i d e => by simpa using k (i + 1) d (by simpa using e)) q
end
section
variable {C : Cc} {W : WX} {Hs H : Hp} {σ : L2.St} {e : En} {fe fx : Fp} {P : Addr → Prop}
theorem Ok.delL (ok : Ok C Hs H σ e fe fx P) : ∀ vs : List Nat, ∃ fe', Ok C Hs H σ (delL e vs) fe' fx P
  | [] => ⟨fe, ok⟩
  | v :: vs => by
    obtain ⟨fe1, ok1⟩ := Ok.delL ok vs
    exact ok1.del v
/-- slots that are not looked at may hold anything -/
theorem Ok.frame {σ2 : L2.St} (ok : Ok C Hs H σ e fe fx P) (hl : σ2.length = σ.length) (h : ∀ (i : Nat) (d : D), e.sl[i]? = some (some d) → σ2[i]? = σ[i]?) (hp : ∀ p ∈ C.pins, σ2[p.1]? = σ[p.1]?) : Ok C Hs H σ2 e fe fx P :=
  ⟨ok.wf, ok.sl.any hl h, fun p hpp => (hp p hpp).trans (ok.pn p hpp), ok.ex⟩
theorem Ok.wipe {vs : List Nat} (hv : ∀ p ∈ C.pins, p.1 ∉ vs) (ok : Ok C Hs H σ (Bx.delL e vs) fe fx P) : Ok C Hs H (L2.wipe σ vs) (Bx.delL e vs) fe fx P :=
  ok.frame (wipe_length σ vs) (fun i d h => wipe_out fun z => delL_at z d h) fun p hp => wipe_out (hv p hp)
theorem Ok.unwipe {vs : List Nat} (hv : ∀ p ∈ C.pins, p.1 ∉ vs) (ok : Ok C Hs H (L2.wipe σ vs) (Bx.delL e vs) fe fx P) : Ok C Hs H σ (Bx.delL e vs) fe fx P :=
  ok.frame (wipe_length σ vs).symm (fun i d h => (wipe_out fun z => delL_at z d h).symm) fun p hp => (wipe_out (hv p hp)).symm
end

/-- nothing is raised here -/
abbrev W0 : WX := fun _ _ _ _ => False
theorem EndZ.nox {α : Type} {C : Cc} {r : Rs α} {Hs H : Hp} {P : Addr → Prop} {σ : L2.St} {Z : α → En → Prop} {W : WX} (h : EndZ C W r.nox Hs H P σ Z) : EndZ C W0 r Hs H P σ Z := by
  cases r with
  | bad => exact h
  | ok d e => exact h
  | exc x e => exact h.elim
def BTs (X : Cx) (C : Cc) (W : WX) (ifs : List Expr) (F : FT) : Prop := PTs X ifs (canT C W F)
theorem _root_.L2.PTs.imp {X : Cx} {e : List Expr} {t t' : TT} (h : PTs X e t) (i : ∀ σ H Q, t' σ H Q → t σ H Q) : PTs X e t' := ⟨fun pins s σ H Q I q => h.run pins s σ H Q I (i _ _ _ q)⟩
theorem bts_nil {X : Cx} {C : Cc} {W : WX} : BTs X C W [] tYesF := pts_nil.imp fun σ H Q ⟨e, Hs, fe, P, ok, q⟩ => q Hs H fe (Aft.refl _ _ _) ok
theorem bts_one {X : Cx} {C : Cc} {W : WX} {c : Expr} {F : FT} (h : BT X C W c F) : BTs X C W [c] F := pts_one h

/-- where a comprehension stands: acc is made so far, at D -/
structure LcSt (C : Cc) (W : WX) (vs : List Nat) (g : FG) (tt : FT) (el : FE) (xs : List D) (σ : L2.St) (Hs1 H1 : Hp) (P : Addr → Prop) (Dd : Addr) (Z : List D → En → Prop) (i : Nat) (H : Hp) : Prop where
  ex : ∃ (acc : List D) (e : En) (Hs : Hp) (fe fa : Fp) (va : List V), Aft Hs1 H1 Hs H P ∧ Ok C Hs H (wipe σ vs) (delL e vs) fe (fun b => fa b + if b = Dd then 1 else 0) P ∧ H Dd = some (.lst va) ∧ Rps C.toGc Hs H va acc fa ∧
    EndZ C W (lcL vs g tt el (xs.drop i) acc (delL e vs)) Hs H P σ Z

theorem lc_main {C : Cc} {W : WX} {vs : List Nat} {ts : List Nat} {g : FG} {tt : FT} {el : FE} {xs : List D} {σ : L2.St} {Hs1 H1 : Hp} {P : Addr → Prop} {Dd : Addr} {Z : List D → En → Prop} {J : It} {QD : Hp → Prop}
    (hts : ∀ i ∈ ts, i ∈ vs) (hv : ∀ p ∈ C.pins, p.1 ∉ vs) (j : JOk C.toGc J xs Hs1) (st : LcSt C W vs g tt el xs σ Hs1 H1 P Dd Z 0 H1)
    (fin : ∀ acc e Hs H fe fa va, Aft Hs1 H1 Hs H P → Ok C Hs H (wipe σ vs) (delL e vs) fe (fun b => fa b + if b = Dd then 1 else 0) P → H Dd = some (.lst va) → Rps C.toGc Hs H va acc fa → Z acc (delL e vs) → QD H) :
    ∃ Wn : Nat → Nat → Hp → Prop, (∃ m, Wn 0 m H1) ∧ ∀ i m H, Wn i m H →
      (J.stop i H ∧ QD H) ∨ (J.go i H ∧ ∃ Nx : Hp → Prop, (∀ H', Nx H' → ∃ m', m' < m ∧ Wn (i + 1) m' H') ∧ ∀ x H', J.yld i H x H' → canG C ts g x (wipe σ vs) H' fun σ2 H2 => wipe σ2 vs = wipe σ vs ∧ canT C W0 tt σ2 H2 fun b H3 =>
        if b = true then canE C W0 el σ2 H3 fun y H4 => ∃ acc, H4 Dd = some (.lst acc) ∧ acc.length < sizeLine ∧ Nx (upd H4 Dd (.lst (acc ++ [y]))) else Nx H3) := by
  refine ⟨fun i m H => i + m = xs.length ∧ LcSt C W vs g tt el xs σ Hs1 H1 P Dd Z i H, ⟨xs.length, by omega, st⟩, ?_⟩
  rintro i m H ⟨hm, ⟨acc, e, Hs, fe, fa, va, a2, ok2, hD, ra, q2⟩⟩
  by_cases hlt : i < xs.length
  · obtain ⟨d, hd⟩ : ∃ d, xs[i]? = some d := ⟨_, List.getElem?_eq_getElem hlt⟩
    have ed : xs.drop i = d :: xs.drop (i + 1) := by
      rw [List.drop_eq_getElem_cons hlt]
      rw [List.getElem?_eq_getElem hlt] at hd
      rw [Option.some.inj hd]
    rw [ed] at q2
    unfold lcL at q2
    refine .inr ⟨j.go Hs H i d a2.sh ok2.sm hd, fun H' => i + 1 + (m - 1) = xs.length ∧ LcSt C W vs g tt el xs σ Hs1 H1 P Dd Z (i + 1) H', fun H' h => ⟨m - 1, by omega, h⟩, fun x H' y => ?_⟩
    -- the list made so far is held
    have hR : Held (fun Hs' H' => H' Dd = some (.lst va) ∧ Rps C.toGc Hs' H' va acc fa) (fun b => fa b + if b = Dd then 1 else 0) Hs H :=
      ⟨⟨hD, ra⟩, fun Hs' H' s k => ⟨(k Dd (by rw [if_pos rfl]; omega)).1.trans hD, ra.mono s fun b hb => k b (by omega)⟩, fun b hb => by
        by_cases z : b = Dd
        · rw [z, hD]; intro z; cases z
        · rw [if_neg z] at hb; exact (ra.live b (by omega)).1⟩
    obtain ⟨Hs3, n3, r3⟩ := j.yld Hs H i d x H' a2.sh ok2.sm hd y
    have af3 : Aft Hs H Hs3 H' (fun b => P b ∨ fa b + (if b = Dd then 1 else 0) ≠ 0) := n3.aft (ok2.holdR hR)
    have okH := ok2.holdR hR
    have okH3 : Ok C Hs3 H' (wipe σ vs) (delL e vs) fe f0 (fun b => P b ∨ fa b + (if b = Dd then 1 else 0) ≠ 0) := (okH.new n3 fun _ h => absurd rfl h).fps (fun _ => rfl) fun _ => rfl
    have hold3 := hR.on ok2 af3
    cases hgx : g d (delL e vs) with
    | none => rw [hgx] at q2; exact q2.elim
    | some e4 =>
      rw [hgx] at q2
      dsimp only at q2
      refine ⟨delL e vs, Hs3, fe, f0, _, d, e4, okH3, r3, hgx, fun σ5 Hs5 H5 fe5 t5 a5 ok5 => ⟨wipe_tch t5 hts, ?_⟩⟩
      have af5 := af3.trans a5
      have hold5 := hR.on ok2 af5
      -- the test
      have q5 : EndZ C W0 (tt e4) Hs5 H5 (fun b => P b ∨ fa b + (if b = Dd then 1 else 0) ≠ 0) σ5 fun k e2 => EndZ C W (if k then (el e2).nox.bind fun y e3 => (if acc.length < lim then lcL vs g tt el (xs.drop (i + 1)) (acc ++ [y]) (delL e3 vs) else .bad) else lcL vs g tt el (xs.drop (i + 1)) acc (delL e2 vs)) Hs H P σ Z := by
        cases h : tt e4 with
        | bad => rw [h] at q2; exact q2.elim
        | exc x e => rw [h] at q2; exact q2.elim
        | ok k e2 => rw [h] at q2; exact q2
      refine firstT ok5 q5 fun k e6 Hs6 H6 fe6 a6 ok6 q6 => ?_
      have af6 := af5.trans a6
      have hold6 := hR.on ok2 af6
      -- the turn's end
      have turn : ∀ (acc' : List D) (e' : En) (Hs' H'' : Hp) (fe' fa' : Fp) (va' : List V) (σ' : L2.St), σ'.length = (wipe σ vs).length → (∀ i, i ∉ vs → σ'[i]? = (wipe σ vs)[i]?) → Aft Hs H Hs' H'' P → Ok C Hs' H'' σ' e' fe' (fun b => fa' b + if b = Dd then 1 else 0) P → H'' Dd = some (.lst va') → Rps C.toGc Hs' H'' va' acc' fa' →
          EndZ C W (lcL vs g tt el (xs.drop (i + 1)) acc' (delL e' vs)) Hs H P σ Z → i + 1 + (m - 1) = xs.length ∧ LcSt C W vs g tt el xs σ Hs1 H1 P Dd Z (i + 1) H'' := by
        intro acc' e' Hs' H'' fe' fa' va' σ' hl' ho' af' ok' hD' ra' q'
        obtain ⟨fe2, ok2'⟩ := ok'.delL vs
        refine ⟨by omega, ⟨acc', e', Hs', fe2, fa', va', a2.trans af', ?_, hD', ra', ?_⟩⟩
        · exact ok2'.frame hl'.symm (fun i d h => (ho' i fun z => delL_at z d h).symm) fun p hp => (ho' p.1 (hv p hp)).symm
        · cases hr : lcL vs g tt el (xs.drop (i + 1)) acc' (delL e' vs) with
          | bad => rw [hr] at q'; exact q'
          | ok a b => rw [hr] at q'; exact q'
          | exc x b => rw [hr] at q'; exact XcK.shift q' af'
      have t5' : σ5.length = (wipe σ vs).length ∧ ∀ i, i ∉ vs → σ5[i]? = (wipe σ vs)[i]? := ⟨t5.1, fun i hi => t5.2 i fun z => hi (hts i z)⟩
      cases k with
      | false =>
        refine iteF ?_
        have okb : Ok C Hs6 H6 σ5 e6 fe6 (fun b => (fa b + if b = Dd then 1 else 0) + f0 b) P := ok6.back (fun b => by have := ok2.wf.one b; omega) (fun b hb => by have := ok2.wf.apart b hb; omega) (fun b hb => ok2.wf.own b (by omega)) af6
        exact turn acc e6 Hs6 H6 fe6 fa va σ5 t5'.1 t5'.2 (af6.weak fun b hb => .inl hb) (okb.fps (fun _ => rfl) fun _ => rfl) hold6.1 hold6.2 q6
      | true =>
        refine iteT ?_
        have q7 : EndZ C W0 (el e6) Hs6 H6 (fun b => P b ∨ fa b + (if b = Dd then 1 else 0) ≠ 0) σ5 fun y e3 => EndZ C W (if acc.length < lim then lcL vs g tt el (xs.drop (i + 1)) (acc ++ [y]) (delL e3 vs) else .bad) Hs H P σ Z := by
          cases h : el e6 with
          | bad => simp only [if_true] at q6; rw [h] at q6; exact q6.elim
          | exc x e => simp only [if_true] at q6; rw [h] at q6; exact q6.elim
          | ok k e2 => simp only [if_true] at q6; rw [h] at q6; exact q6
        refine firstE ok6 q7 fun y e8 v8 Hs8 H8 fe8 fv8 a8 ok8 r8 q8 => ?_
        have af8 := af6.trans a8
        have hold8 := hR.on ok2 af8
        by_cases hl : acc.length < lim
        · rw [if_pos hl] at q8
          refine ⟨va, hold8.1, by rw [ra.len]; exact lim_lt (Nat.le_of_lt hl), ?_⟩
          have okb : Ok C Hs8 H8 σ5 e8 fe8 (fun b => (fa b + if b = Dd then 1 else 0) + fv8 b) P := ok8.back (fun b => by have := ok2.wf.one b; omega) (fun b hb => by have := ok2.wf.apart b hb; omega) (fun b hb => ok2.wf.own b (by omega)) af8
          have nD : Hs8 Dd = none := okb.wf.own Dd (by rw [if_pos rfl]; omega)
          have onD := okb.wf.one Dd
          rw [if_pos rfl] at onD
          have ne : ∀ b, (fe8 b ≠ 0 ∨ fa b ≠ 0 ∨ fv8 b ≠ 0) → b ≠ Dd := fun b hb z => by subst z; omega
          have up : ∀ b, b ≠ Dd → (upd H8 Dd (.lst (va ++ [v8]))) b = H8 b := fun b hb => upd_ne hb
          have afU : Aft Hs8 H8 Hs8 (upd H8 Dd (.lst (va ++ [v8]))) P := ⟨Same.refl _, fun b hb => ⟨up b fun z => by have := okb.wf.apart b hb; rw [if_pos z] at this; omega, rfl⟩, fun b hb => by
            by_cases z : b = Dd
            · rw [z, upd_same] at hb; cases hb
            · rw [up b z] at hb; exact hb⟩
          have smU : Sm Hs8 (upd H8 Dd (.lst (va ++ [v8]))) := fun a u ha => by
            rw [up a fun z => by rw [z, nD] at ha; cases ha]; exact okb.wf.sm a u ha
          have keep : ∀ {f : Fp}, (∀ b, f b ≠ 0 → b ≠ Dd) → (∀ b, f b ≠ 0 → Hs8 b = none) → ∀ b, f b ≠ 0 → (upd H8 Dd (.lst (va ++ [v8]))) b = H8 b ∧ Hs8 b = none := fun h1 h2 b hb => ⟨up b (h1 b hb), h2 b hb⟩
          refine turn (acc ++ [y]) e8 Hs8 _ fe8 (fun b => fa b + fv8 b) (va ++ [v8]) σ5 t5'.1 t5'.2 ((af8.weak fun b hb => .inl hb).trans afU) ⟨⟨smU, fun b => by have := okb.wf.one b; omega, fun b hb => okb.wf.own b (by omega), fun b hb => by have := okb.wf.apart b hb; omega, fun b hb z => okb.wf.live b hb (afU.mono b z)⟩,
            okb.sl.mono (Same.refl _) (keep (fun b hb => ne b (.inl hb)) fun b hb => okb.wf.own b (by omega)), okb.pn, okb.ex.mono (Same.refl _)⟩ upd_same ?_ q8
          refine Rps.app (hold8.2.mono (Same.refl _) (keep (fun b hb => ne b (.inr (.inl hb))) fun b hb => okb.wf.own b (by omega))) (.cons (r8.mono (Same.refl _) (keep (fun b hb => ne b (.inr (.inr hb))) fun b hb => okb.wf.own b (by omega))) (.nil (f := f0) fun _ => rfl) (h := fv8) fun b => rfl) fun b => rfl
        · rw [if_neg hl] at q8; exact q8.elim
  · have ei : i = xs.length := by omega
    subst ei
    rw [List.drop_length] at q2
    exact .inl ⟨j.stop Hs H a2.sh ok2.sm, fin acc e Hs H fe fa va a2 ok2 hD ra q2⟩

section
variable {X : Cx} {C : Cc} {W : WX} {pos : Pos} {a tg elt : Expr} {ifs : List Expr} {Fi : FI} {ts : List Nat} {g : FG} {tt : FT} {el : FE}
theorem EndE.bindI {r : Rs (List D)} {k : List D → En → Rs D} {Hs H : Hp} {P : Addr → Prop} {σ : L2.St} {R : It → Hp → Prop} {Q : VK} (h : EndE C W (r.bind k) Hs H P σ Q)
    (hR : ∀ J xs e' Hs' H' fe', Aft Hs H Hs' H' P → Ok C Hs' H' σ e' fe' f0 P → JOk C.toGc J xs Hs' → EndE C W (k xs e') Hs' H' P σ Q → R J H') : EndI C W r Hs H P σ R := by
  cases r with
  | bad => exact h
  | ok xs e' => exact fun J Hs' H' fe' a ok j => hR J xs e' Hs' H' fe' a ok j (h.shift a)
  | exc x e' => exact h
/-- the reading of a comprehension -/
theorem lc_read {wi : TI} {own : List (Str × Nat)} (hts : ∀ i ∈ ts, i ∈ own.map (·.2)) (hv : ∀ p ∈ C.pins, p.1 ∉ own.map (·.2)) {σ : L2.St} {H : Hp} {Q : VK} (h : canE C W (eLc (own.map (·.2)) Fi g tt el) σ H Q) :
    tLc (canI C W Fi) (canG C ts g) (canT C W0 tt) (canE C W0 el) (own.map (·.2)) σ H Q := by
  generalize own.map (·.2) = vs at hts hv h ⊢
  obtain ⟨e, Hs, fe, P, ok, q⟩ := h
  refine ⟨e, Hs, fe, P, ok, EndE.bindI q fun J xs e1 Hs1 H1 fe1 a1 ok1 j q1 => ?_⟩
  intro Dd hD
  obtain ⟨fe2, ok2⟩ := ok1.delL vs
  have ok3 := ok2.wipe hv
  have n := New.obj (o := .lst []) ok3.sm hD
  have ok4 := ok3.new n fun b hb => absurd rfl hb
  have ok5 : Ok C Hs1 (upd H1 Dd (.lst [])) (wipe σ vs) (delL e1 vs) fe2 (fun b => f0 b + if b = Dd then 1 else 0) P := ok4
  have af : Aft Hs1 H1 Hs1 (upd H1 Dd (.lst [])) P := n.aft ok3
  refine lc_main (W := W) (xs := xs) (el := el) (tt := tt) (P := P) (Z := fun acc e2 => EndE C W (.ok (.nd .lst true acc) e2) Hs1 (upd H1 Dd (.lst [])) P σ Q) hts hv j ⟨[], e1, Hs1, fe2, f0, [], Aft.refl _ _ _, ok5, upd_same, .nil fun _ => rfl, ?_⟩ ?_
  · have q2 := q1.shift af
    rw [List.drop_zero]
    cases hr : lcL vs g tt el xs [] (delL e1 vs) with
    | bad => rw [hr] at q2; exact q2
    | ok acc e2 => rw [hr] at q2; exact q2
    | exc x e2 => rw [hr] at q2; exact fun dd H2s H2 fe' b ok ex => q2 dd H2s H2 fe' b ok ex
  · intro acc e2 Hs2 H2 fe2 fa va a2 ok2 hl ra z
    refine z (.ref Dd) Hs2 H2 fe2 (fun b => fa b + if b = Dd then 1 else 0) a2 (ok2.unwipe hv) ?_
    exact .own hl rfl (ok2.wf.own Dd (by rw [if_pos rfl]; omega)) ra fun b => rfl
theorem be_lc {scope : Scope} {own : List (Str × Nat)} (hc : X.calm = true) (hN : X.N.Nodup) (hi : BI X C W tg a Fi) (ok : BlkOk X.N X.env.scope scope own) (hts : ∀ i ∈ ts, i ∈ own.map (·.2)) (hv : ∀ p ∈ C.pins, p.1 ∉ own.map (·.2))
    (hg : ∀ (s : Shared) (H : Hp) (Ca : Addr) (cl : List (Str × Addr)) (fp : List Addr), BG (X.blk s H scope (compEnvC scope cl Ca X.env) fp) C tg ts g)
    (ht : ∀ (s : Shared) (H : Hp) (Ca : Addr) (cl : List (Str × Addr)) (fp : List Addr), BTs (X.blk s H scope (compEnvC scope cl Ca X.env) fp) C W0 ifs tt)
    (he : ∀ (s : Shared) (H : Hp) (Ca : Addr) (cl : List (Str × Addr)) (fp : List Addr), BE (X.blk s H scope (compEnvC scope cl Ca X.env) fp) C W0 elt el) (hf : ∀ x, foldedSetIterable a X.env x = pure x) :
    BE X C W (.ListComp elt [⟨tg, a, ifs, 0⟩] scope pos) (eLc (own.map (·.2)) Fi g tt el) :=
  (pe_lc hc hN hi ok hg ht he hf).imp fun σ H Q h => lc_read (wi := canI C W Fi) hts hv h
theorem bs_setLc {i : Nat} {y : Str} {py spos : Pos} {scope : Scope} {own : List (Str × Nat)} (hc : X.calm = true) (hN : X.N.Nodup) (hy : X.N[i]? = some y) (hyl : X.env.scope.names.lookup y = some .local) (hp : npin C i)
    (hsw : swapsWith (.ListComp elt [⟨tg, a, ifs, 0⟩] scope pos) (some (.Name y py)) spos.line X.env = pure true) (hi : BI X C W tg a Fi) (ok : BlkOk X.N X.env.scope scope own) (hts : ∀ i ∈ ts, i ∈ own.map (·.2)) (hv : ∀ p ∈ C.pins, p.1 ∉ own.map (·.2))
    (hg : ∀ (s : Shared) (H : Hp) (Ca : Addr) (cl : List (Str × Addr)) (fp : List Addr), BG (X.blk s H scope (compEnvC scope cl Ca X.env) fp) C tg ts g)
    (ht : ∀ (s : Shared) (H : Hp) (Ca : Addr) (cl : List (Str × Addr)) (fp : List Addr), BTs (X.blk s H scope (compEnvC scope cl Ca X.env) fp) C W0 ifs tt)
    (he : ∀ (s : Shared) (H : Hp) (Ca : Addr) (cl : List (Str × Addr)) (fp : List Addr), BE (X.blk s H scope (compEnvC scope cl Ca X.env) fp) C W0 elt el) (hf : ∀ x, foldedSetIterable a X.env x = pure x) :
    BS X C W (.Assign [.Name y py] (.ListComp elt [⟨tg, a, ifs, 0⟩] scope pos) spos) (fAsg (gN i) (eLc (own.map (·.2)) Fi g tt el)) :=
  (ps_setLc hc hN hy hyl hsw hi ok hg ht he hf).imp fun N σ H ⟨e, Hs, fe, P, ok, q⟩ => by
    refine lc_read (wi := canI C W Fi) hts hv (W := W) (firstE ok (q.bind σ) fun d e1 v Hs1 H1 fe1 fv1 a1 ok1 r1 q1 => ?_)
    unfold gN at q1
    by_cases hi : i < e1.sl.length
    · rw [if_pos hi] at q1
      obtain ⟨fe', ok'⟩ := (ok1.fps (fun _ => rfl) (fx' := fun b => fv1 b + f0 b) fun _ => rfl).put r1 hi hp
      exact q1 _ Hs1 H1 fe' a1 ok'
    · rw [if_neg hi] at q1; exact q1.elim
end
end Bx

set_option Elab.async false
set_option linter.all false
set_option maxRecDepth 100000
set_option maxHeartbeats 1000000
/-! What a name holds is changed: items stored, lists grown. -/
namespace Bx
open PySem L2

section
variable {C : Cc} {Hs H : Hp} {σ : L2.St} {e : En} {fe fx : Fp} {P : Addr → Prop}
/-- an owned object is changed -/
theorem Ok.chg {a : Addr} {o : HO} (ok : Ok C Hs H σ e fe fx P) (ha : fx a ≠ 0) : Ok C Hs (upd H a o) σ e fe fx P ∧ Aft Hs H Hs (L2.upd H a o) P := by
  have up : ∀ b, b ≠ a → (L2.upd H a o) b = H b := fun b hb => upd_ne hb
  have nHs : Hs a = none := ok.wf.own a (by omega)
  have mono : ∀ b, (L2.upd H a o) b = none → H b = none := fun b hb => by
    by_cases z : b = a
    · rw [z, upd_same] at hb; cases hb
    · rw [up b z] at hb; exact hb
  have hP : ∀ b, P b → b ≠ a := fun b hb z => by have := ok.wf.apart b hb; rw [z] at this; omega
  refine ⟨⟨⟨fun b u hb => ?_, ok.wf.one, ok.wf.own, ok.wf.apart, fun b hb z => ok.wf.live b hb (mono b z)⟩, ok.sl.mono (Same.refl _) fun b hb => ⟨up b fun z => ?_, ok.wf.own b (by omega)⟩, ok.pn, ok.ex.mono (Same.refl _)⟩, ⟨Same.refl _, fun b hb => ⟨up b (hP b hb), rfl⟩, mono⟩⟩
  · rw [up b fun z => by rw [z, nHs] at hb; cases hb]; exact ok.wf.sm b u hb
  · have := ok.wf.one b; rw [z] at this hb; omega
end
section
variable {G : Gc} {Hs H : Hp}
/-- one of them is put in another's place -/
theorem rps_set : ∀ {vs : List V} {ds : List D} {f : Fp} {i : Nat} {v : V} {d : D} {g : Fp}, Rps G Hs H vs ds f → i < ds.length → Rp G Hs H v d g → ∃ (f1 f2 : Fp), (∀ b, f b = f1 b + f2 b) ∧ Rps G Hs H (vs.set i v) (ds.set i d) (fun b => g b + f2 b)
  | _, _, _, i, _, _, _, .nil _, h, _ => by simp at h
  | _, _, _, 0, _, _, _, .cons (f := f1) (g := g1) r rs e, h, r2 => ⟨f1, g1, e, .cons r2 rs fun b => rfl⟩
  | _, _, _, i + 1, _, _, g, .cons (f := f1) (g := g1) r rs e, h, r2 => by
    obtain ⟨a1, a2, h1, h2⟩ := rps_set rs (i := i) (by simpa using h) r2
    exact ⟨a1, fun b => f1 b + a2 b, fun b => by rw [e b, h1 b]; show _ = a1 b + (f1 b + a2 b); omega, .cons r h2 fun b => by show g b + (f1 b + a2 b) = f1 b + (g b + a2 b); omega⟩
end
theorem kpos_cons {κ : Type} [DecidableEq κ] {k k' : κ} {ks : List κ} : kpos (k' :: ks) k = if k' = k then some 0 else (kpos ks k).map (· + 1) := rfl
theorem any_kpos {κ : Type} [DecidableEq κ] {k : κ} : ∀ {ks : List κ} {vs : List V}, ks.length = vs.length → ((ks.zip vs).any fun kv => decide (kv.1 = k)) = (kpos ks k).isSome
  | [], [], _ => rfl
  | [], _ :: _, h => by cases h
  | _ :: _, [], h => by cases h
  | k' :: ks, v :: vs, h => by
    have ih := any_kpos (k := k) (ks := ks) (vs := vs) (by simpa using h)
    rw [List.zip_cons_cons, List.any_cons, ih, kpos_cons]
    by_cases e : k' = k
    · simp [e]
    · simp [e]
theorem kpos_mem {κ : Type} [DecidableEq κ] {k : κ} : ∀ {ks : List κ}, (kpos ks k).isSome = true ↔ k ∈ ks
  | [] => by simp [kpos]
  | k' :: ks => by
    rw [kpos_cons]
    by_cases e : k' = k
    · simp [e]
    · have ih := kpos_mem (k := k) (ks := ks)
      simp only [if_neg e, Option.isSome_map, List.mem_cons]
      constructor
      · intro h; exact .inr (ih.mp h)
      · rintro (h | h)
        · exact absurd h.symm e
        · exact ih.mpr h
theorem map_out {κ : Type} [DecidableEq κ] {k : κ} {v : V} : ∀ {ks : List κ} {vs : List V}, k ∉ ks → (ks.zip vs).map (fun kv => if kv.1 = k then (kv.1, v) else kv) = ks.zip vs
  | [], _, _ => rfl
  | _ :: _, [], _ => rfl
  | k' :: ks, w :: vs, h => by
    rw [List.zip_cons_cons, List.map_cons, map_out (fun z => h (List.mem_cons_of_mem _ z)), if_neg fun z => h (by rw [show k = k' from z.symm]; exact List.mem_cons_self)]
theorem map_set {κ : Type} [DecidableEq κ] {k : κ} {v : V} : ∀ {ks : List κ} {vs : List V} {j : Nat}, ks.Nodup → ks.length = vs.length → kpos ks k = some j → (ks.zip vs).map (fun kv => if kv.1 = k then (kv.1, v) else kv) = ks.zip (vs.set j v)
  | [], _, _, _, _, h => by cases h
  | _ :: _, [], _, _, h, _ => by cases h
  | k' :: ks, w :: vs, j, nd, hl, h => by
    unfold kpos at h
    by_cases e : k' = k
    · rw [if_pos e] at h
      cases h
      rw [List.zip_cons_cons, List.map_cons, if_pos e, List.set_cons_zero, List.zip_cons_cons]
      rw [map_out (by rw [← e]; exact (List.nodup_cons.mp nd).1)]
    · rw [if_neg e] at h
      obtain ⟨i, h1, rfl⟩ := Option.map_eq_some_iff.mp h
      rw [List.zip_cons_cons, List.map_cons, if_neg e, List.set_cons_succ, List.zip_cons_cons, map_set (List.nodup_cons.mp nd).2 (by simpa using hl) h1]
theorem putK_old {κ : Type} [DecidableEq κ] {k : κ} {v : V} {ks : List κ} {vs : List V} {j : Nat} (nd : ks.Nodup) (hl : ks.length = vs.length) (h : kpos ks k = some j) : putK (ks.zip vs) k v = ks.zip (vs.set j v) := by
  unfold putK
  rw [any_kpos hl, h]
  exact map_set nd hl h
theorem putK_fresh {κ : Type} [DecidableEq κ] {k : κ} {v : V} {ks : List κ} {vs : List V} (hl : ks.length = vs.length) (h : kpos ks k = none) : putK (ks.zip vs) k v = (ks ++ [k]).zip (vs ++ [v]) := by
  unfold putK
  rw [any_kpos hl, h]
  show (ks.zip vs) ++ [(k, v)] = _
  rw [List.zip_append hl]; rfl

/-- x[y] = d, what x holds being k, xs -/
def setD (k : Kd) (xs : List D) (y d : D) : Option D := match k with
  | .lst => (match y with
    | .int i => (ixN xs.length i).map fun j => .nd .lst true (xs.set j d)
    | _ => none)
  | .dk ks => (keyD y).bind fun key => if xs.length < lim then some (match kpos ks key with
    | some j => .nd (.dk ks) true (xs.set j d)
    | none => .nd (.dk (ks ++ [key])) true (xs ++ [d])) else none
  | .dt ks => (tkeyD y).bind fun key => if xs.length < lim then some (match kpos ks key with
    | some j => .nd (.dt ks) true (xs.set j d)
    | none => .nd (.dt (ks ++ [key])) true (xs ++ [d])) else none
  | _ => none
/-- a slot's owned node -/
def En.own (e : En) (i : Nat) : Option (Kd × List D) := match e.sl[i]? with
  | some (some (.nd k true xs)) => some (k, xs)
  | _ => none
def So.opt (o : Option En) : So := match o with
  | some e => .nx e
  | none => .bad
def fSetN (i : Nat) (b a : FE) : FS := fun e => (a e).toS fun d e1 => if (e1.own i).isSome then (b e1).toS fun y e2 => .opt ((e2.own i).bind fun (k, xs) => (setD k xs (frz y) d).map fun d' => e2.put i d') else .bad
theorem En.own_some {e : En} {i : Nat} {k : Kd} {xs : List D} (h : e.own i = some (k, xs)) : e.sl[i]? = some (some (.nd k true xs)) := by
  unfold En.own at h
  split at h
  · rename_i k' xs' h'; cases h; exact h'
  · cases h

def rSetA : TSet := fun o i v H Q => rSetL o i v H Q ∨ rSetD o i v H Q
theorem set_A {X : Cx} (hu : X.A.units + 1 < cLine) : PSet X rSetA := fun pins s σ H o i v ov iv u Q I ro ri rv h => h.elim (set_list pins s σ H o i v ov iv u Q I ro ri rv) (set_dict hu pins s σ H o i v ov iv u Q I ro ri rv)

section
variable {C : Cc} {Hs H : Hp} {σ : L2.St} {e : En} {fe fx : Fp} {P : Addr → Prop}
/-- the store itself: a value at hand goes into the slot's node -/
theorem Ok.store' {i : Nat} {k : Kd} {xs : List D} {y d d' : D} {w u v0 : V} {fy fd : Fp} (ok : Ok C Hs H σ e fe fd P) (ho : e.own i = some (k, xs)) (hv : σ[i]? = some (some v0)) (ry : Rp C.toGc Hs H w y fy) (rd : Rp C.toGc Hs H u d fd) (hs : setD k xs y d = some d') {Q : Hp → Prop}
    (q : ∀ H' fe', Aft Hs H Hs H' P → Ok C Hs H' σ (e.put i d') fe' f0 P → Q H') : (k = .lst ∧ rSetL v0 w u H Q) ∨ (k ≠ .lst ∧ rSetD v0 w u H Q) := by
  obtain ⟨v, f1, f2, e1, r1, e2, ok1, put⟩ := ok.slot (En.own_some ho)
  rw [hv] at e1; cases e1
  cases r1 with
  | @own a _ vs _ g _ at_ hw nHs rs eg =>
    have ha1 : f1 a ≠ 0 := by rw [eg a, if_pos rfl]; omega
    have hl := rs.len
    have one := ok1.wf.one
    -- the new node
    have main : ∀ (k' : Kd) (vs' : List V) (xs' : List D) (fn : Fp) (o : HO), At C.toGc (upd H a o) a k' vs' → k'.ow = true → (∀ b, fn b ≤ g b + fd b) → Rps C.toGc Hs (upd H a o) vs' xs' fn → Q (upd H a o) ∨ (∃ fe', Aft Hs H Hs (upd H a o) P ∧ Ok C Hs (upd H a o) σ (e.put i (.nd k' true xs')) fe' f0 P) := by
      intro k' vs' xs' fn o at' w' le rs'
      right
      obtain ⟨ok2, af⟩ := ok1.chg (o := o) (a := a) (by omega)
      have ok3 : Ok C Hs (upd H a o) σ { e with sl := e.sl.set i none } f2 (fun b => (fn b + if b = a then 1 else 0) + f0 b) P := ok2.less fun b => by have := le b; have := eg b; show fn b + (if b = a then 1 else 0) + 0 ≤ f1 b + fd b; omega
      exact ⟨_, af, put (e' := e) ok3 (.own at' w' nHs rs' fun b => rfl)⟩
    -- the parts stand behind the store
    have up : ∀ (o : HO) b, b ≠ a → (upd H a o) b = H b := fun o b hb => upd_ne hb
    have g_a : g a = 0 := by have := one a; have := eg a; rw [if_pos rfl] at this; omega
    have fd_a : fd a = 0 := by have := one a; have := eg a; rw [if_pos rfl] at this; omega
    have rs_up : ∀ o, Rps C.toGc Hs (upd H a o) vs xs g := fun o => rs.mono (Same.refl _) fun b hb => ⟨up o b fun z => hb (by rw [z]; exact g_a), (rs.live b hb).2⟩
    have rd_up : ∀ o, Rp C.toGc Hs (upd H a o) u d fd := fun o => rd.mono (Same.refl _) fun b hb => ⟨up o b fun z => hb (by rw [z]; exact fd_a), (rd.live b hb).2⟩
    have fin : ∀ {k' : Kd} {vs' : List V} {xs' : List D} {fn : Fp} {o : HO}, At C.toGc (upd H a o) a k' vs' → k'.ow = true → (∀ b, fn b ≤ g b + fd b) → Rps C.toGc Hs (upd H a o) vs' xs' fn → d' = .nd k' true xs' → Q (upd H a o) := by
      intro k' vs' xs' fn o h1 h2 h3 h4 h5
      rcases main k' vs' xs' fn o h1 h2 h3 h4 with h | ⟨fe', af, okf⟩
      · exact h
      · rw [h5] at q; exact q _ fe' af okf
    unfold setD at hs
    cases k with
    | lst =>
      dsimp only at hs
      split at hs
      · rename_i i'
        obtain ⟨j, hj, rfl⟩ := Option.map_eq_some_iff.mp hs
        rw [ry.toI]
        obtain ⟨f1', f2', h1, h2⟩ := rps_set (rs_up (.lst (vs.set j u))) (i := j) (by
          unfold ixN at hj
          split at hj
          · split at hj
            · cases hj; omega
            · cases hj
          · split at hj
            · cases hj; omega
            · cases hj) (rd_up _)
        exact .inl ⟨rfl, a, vs, i', j, rfl, rfl, at_, by rw [hl]; exact hj, fin (k' := .lst) upd_same rfl (fun b => by have := h1 b; show fd b + f2' b ≤ _; omega) h2 rfl⟩
      · cases hs
    | dk ks =>
      obtain ⟨key, hk, hs⟩ := Option.bind_eq_some_iff.mp hs
      have hlk : (ks.zip vs).length = xs.length := by rw [List.length_zip, at_.1.1, Nat.min_self, hl]
      by_cases hlim : xs.length < lim
      rotate_left
      · rw [if_neg hlim] at hs; cases hs
      rw [if_pos hlim] at hs
      split at hs
      · rename_i j hj
        cases hs
        obtain ⟨f1', f2', h1, h2⟩ := rps_set (rs_up (.dK (ks.zip (vs.set j u)))) (i := j) (by have := kpos_lt hj; have := at_.1.1; omega) (rd_up _)
        refine .inr ⟨(fun z => nomatch z), a, _, rfl, .inl ⟨_, key, at_.2, keyD_rp ry hk, by rw [hlk]; exact lim_lt (Nat.le_of_lt hlim), by rw [putK_old at_.1.2 at_.1.1 hj]⟩, fin (k' := .dk ks) ⟨⟨by rw [List.length_set]; exact at_.1.1, at_.1.2⟩, upd_same⟩ rfl (fun b => by have := h1 b; show fd b + f2' b ≤ _; omega) h2 rfl⟩
      · rename_i hj
        · cases hs
          refine .inr ⟨(fun z => nomatch z), a, _, rfl, .inl ⟨_, key, at_.2, keyD_rp ry hk, by rw [hlk]; exact lim_lt (Nat.le_of_lt hlim), by rw [putK_fresh at_.1.1 hj]⟩, fin (k' := .dk (ks ++ [key])) (fn := fun b => g b + fd b) ⟨⟨by simp [at_.1.1], ?_⟩, upd_same⟩ rfl (fun b => Nat.le_refl _) ((rs_up _).app (.cons (rd_up _) (.nil (f := f0) fun _ => rfl) (h := fd) fun b => rfl) fun b => rfl) rfl⟩
          rw [List.nodup_append]
          refine ⟨at_.1.2, by simp, fun x hx y hy => ?_⟩
          rw [List.mem_singleton] at hy
          subst hy
          intro z; subst z
          have := kpos_mem.mpr hx
          rw [hj] at this; cases this
    | dt ks =>
      obtain ⟨key, hk, hs⟩ := Option.bind_eq_some_iff.mp hs
      have hlk : (ks.zip vs).length = xs.length := by rw [List.length_zip, at_.1.1, Nat.min_self, hl]
      obtain ⟨bk, rfl, hbk⟩ := tkeyD_rp ok.sm ry hk
      by_cases hlim : xs.length < lim
      rotate_left
      · rw [if_neg hlim] at hs; cases hs
      rw [if_pos hlim] at hs
      split at hs
      · rename_i j hj
        cases hs
        obtain ⟨f1', f2', h1, h2⟩ := rps_set (rs_up (.dT (ks.zip (vs.set j u)))) (i := j) (by have := kpos_lt hj; have := at_.1.1; omega) (rd_up _)
        refine .inr ⟨(fun z => nomatch z), a, _, rfl, .inr ⟨_, key, bk, at_.2, rfl, hbk, by rw [hlk]; exact lim_lt (Nat.le_of_lt hlim), by rw [putK_old at_.1.2 at_.1.1 hj]⟩, fin (k' := .dt ks) ⟨⟨by rw [List.length_set]; exact at_.1.1, at_.1.2⟩, upd_same⟩ rfl (fun b => by have := h1 b; show fd b + f2' b ≤ _; omega) h2 rfl⟩
      · rename_i hj
        · cases hs
          refine .inr ⟨(fun z => nomatch z), a, _, rfl, .inr ⟨_, key, bk, at_.2, rfl, hbk, by rw [hlk]; exact lim_lt (Nat.le_of_lt hlim), by rw [putK_fresh at_.1.1 hj]⟩, fin (k' := .dt (ks ++ [key])) (fn := fun b => g b + fd b) ⟨⟨by simp [at_.1.1], ?_⟩, upd_same⟩ rfl (fun b => Nat.le_refl _) ((rs_up _).app (.cons (rd_up _) (.nil (f := f0) fun _ => rfl) (h := fd) fun b => rfl) fun b => rfl) rfl⟩
          rw [List.nodup_append]
          refine ⟨at_.1.2, by simp, fun x hx y hy => ?_⟩
          rw [List.mem_singleton] at hy
          subst hy
          intro z; subst z
          have := kpos_mem.mpr hx
          rw [hj] at this; cases this
    | _ => cases hs
theorem Ok.store {i : Nat} {k : Kd} {xs : List D} {y d d' : D} {w u v0 : V} {fy fd : Fp} (ok : Ok C Hs H σ e fe fd P) (ho : e.own i = some (k, xs)) (hv : σ[i]? = some (some v0)) (ry : Rp C.toGc Hs H w y fy) (rd : Rp C.toGc Hs H u d fd) (hs : setD k xs y d = some d') {Q : Hp → Prop}
    (q : ∀ H' fe', Aft Hs H Hs H' P → Ok C Hs H' σ (e.put i d') fe' f0 P → Q H') : rSetA v0 w u H Q :=
  (ok.store' ho hv ry rd hs q).elim (fun h => .inl h.2) fun h => .inr h.2
end

/-- a slot's owned list -/
def En.ownL (e : En) (i : Nat) : Option (List D) := match e.sl[i]? with
  | some (some (.nd .lst true xs)) => some xs
  | _ => none
theorem En.ownL_some {e : En} {i : Nat} {xs : List D} (h : e.ownL i = some xs) : e.sl[i]? = some (some (.nd .lst true xs)) := by
  unfold En.ownL at h
  split at h
  · rename_i xs' h'; cases h; exact h'
  · cases h
/-- list.append(x) by a name -/
def eAppN (i : Nat) (a : FE) : FE := fun e => if (e.ownL i).isSome then (a e).bind fun d e1 => (match e1.ownL i with
  | some xs => if xs.length < lim then .ok .non (e1.put i (.nd .lst true (xs ++ [d]))) else .bad
  | none => .bad) else .bad
/-- x op= a, x a scalar -/
def fAug (i : Nat) (g : D → D → Option D) (a : FE) : FS := fun e => match e.sl[i]? with
  | some (some d) => if d.sc then (a e).toS fun y e1 => .opt ((g d (frz y)).map fun z => e1.put i z) else .bad
  | _ => .bad
/-- x[y] op= a, x a list, its item a scalar -/
def fAugN (i : Nat) (g : D → D → Option D) (b a : FE) : FS := fun e => if (e.own i).isSome then (b e).toS fun y e1 => (match e1.own i with
  | some (.lst, xs) => (match cpos (.nd .lst true xs) (frz y) with
    | some j => (match xs[j]? with
      | some d => if d.sc then (a e1).toS fun w e2 => .opt ((g d (frz w)).bind fun z => (e2.ownL i).bind fun xs => (setD .lst xs (frz y) z).map fun d' => e2.put i d') else .bad
      | none => .bad)
    | none => .bad)
  | _ => .bad) else .bad
theorem pget_list {X : Cx} : PGet X (rIxL X.K) := by
  intro pins s σ H x y v u Q I rx ry h
  obtain ⟨p, xs, i, z, rfl, rfl, hq, he, q⟩ := h
  cases rx
  obtain ⟨t, rfl⟩ := ry
  obtain ⟨its, r, pl, hz⟩ := I.list hq
  obtain ⟨j, h1, h2, h3, h4, h5⟩ := atI_get he
  obtain ⟨w, ew, rw'⟩ := r.get h2
  have hl := r.length
  have hn := line63
  have fin : EP X pins σ Q w s := ⟨z, H, I, rw', q⟩
  by_cases h0 : 0 ≤ i
  · have hj : i.toNat = j := by
      rw [seqIndex_of h0 h5] at h1
      exact Option.some.inj h1
    exact wpAny_getItem_list pl.isList h0 (by omega) (by rw [hj]; simpa using ew) fin
  · have hj : (i + (its.toArray.size : Int)).toNat = j := by
      rw [seqIndex_neg (by omega) h4] at h1
      rw [List.size_toArray, ← hl]
      exact Option.some.inj h1
    exact wpAny_getItem_list_neg pl.isList (by omega) (by rw [List.size_toArray] <;> omega) (by omega) (by rw [hj]; simpa using ew) fin

section
variable {X : Cx} {C : Cc} {W : WX} {pos : Pos} {a b c : Expr} {Fa Fb : FE} {st : Stmt} {i : Nat}
theorem En.own_at {e : En} {i : Nat} (h : (e.own i).isSome = true) : ∃ k xs, e.own i = some (k, xs) := by
  obtain ⟨⟨k, xs⟩, h⟩ := Option.isSome_iff_exists.mp h
  exact ⟨k, xs, h⟩
theorem bs_setN (hp : ∀ (te ti : TE), PE X a te → PE X b ti → PS X st (tAsg te (gSub (tVar i) ti rSetA))) (ha : BE X C W a Fa) (hb : BE X C W b Fb) : BS X C W st (fSetN i Fb Fa) :=
  (hp _ _ ha hb).imp fun N σ H ⟨e, Hs, fe, P, ok, q⟩ => by
    refine firstE ok (q.bind σ) fun d e1 v Hs1 H1 fe1 fv1 a1 ok1 r1 q1 => ?_
    by_cases ho : (e1.own i).isSome = true
    · rw [if_pos ho] at q1
      obtain ⟨k0, xs0, ho'⟩ := En.own_at ho
      obtain ⟨v0, _, _, hv, _⟩ := ok1.slot (En.own_some ho')
      refine ⟨v0, hv, ?_⟩
      refine bindE ok1 (.rp r1) ((q1.shift a1).bind σ) fun y e2 w Hs2 H2 fe2 fv2 a2 ok2 r1 r2 q2 => ?_
      have q3 := q2.shift (a2.weak fun b hb => .inl hb)
      obtain ⟨Hs3, a3, ok3, r2', r1'⟩ := (ok2.fps (fun _ => rfl) (fx' := fun b => fv2 b + fv1 b) fun b => Nat.add_comm _ _).frzX r2 (.rp r1)
      have q4 := q3.shift a3
      cases h : ((e2.own i).bind fun (k, xs) => (setD k xs (frz y) d).map fun d' => e2.put i d') with
      | none => rw [h] at q4; exact q4.elim
      | some e5 =>
        rw [h] at q4
        obtain ⟨⟨k, xs⟩, h1, h2⟩ := Option.bind_eq_some_iff.mp h
        obtain ⟨d', h3, rfl⟩ := Option.map_eq_some_iff.mp h2
        exact ok3.store h1 hv r2' r1' h3 fun H' fe' a5 ok5 => q4 σ Hs3 H' fe' a5 ok5
    · rw [if_neg ho] at q1; exact q1.elim
theorem be_appN {e : Expr} (hp : ∀ t, PA X [a] t → PE X e (tBM X.K "list" rAppend (tVar i) t)) (ha : PA X [a] (tCons (canE C W Fa) tNil)) : BE X C W e (eAppN i Fa) :=
  (hp _ ha).imp fun σ H Q ⟨e, Hs, fe, P, ok, q⟩ => by
    unfold eAppN at q
    cases ho : e.ownL i with
    | none => rw [ho] at q; exact q.elim
    | some xs0 =>
      rw [ho] at q
      obtain ⟨v0, f1, f2, hv, r0, e0, okr, putr⟩ := ok.slot (En.ownL_some ho)
      refine ⟨v0, hv, ?_⟩
      obtain ⟨p, vs, g, rfl, hH, _⟩ := r0.lst ok.sm
      refine ⟨.inl ⟨rfl, vs, SqL.of hH⟩, ?_⟩
      refine firstE ok (EndE.bind q) fun d e1 v Hs1 H1 fe1 fv1 a1 ok1 r1 q1 => ?_
      cases h1 : e1.ownL i with
      | none => rw [h1] at q1; exact q1.elim
      | some xs =>
        rw [h1] at q1
        dsimp only at q1
        by_cases hlim : xs.length < lim
        · rw [if_pos hlim] at q1
          obtain ⟨v1, g1, g2, e1', rr, e2', ok2, put⟩ := ok1.slot (En.ownL_some h1)
          rw [hv] at e1'; cases e1'
          cases rr with
          | @own _ _ vs1 _ g _ at_ hw nHs rs eg =>
            refine ⟨p, vs1, v, rfl, rfl, at_, by rw [rs.len]; exact lim_lt (Nat.le_of_lt hlim), ?_⟩
            have one := ok2.wf.one
            have g_a : g p = 0 := by have := one p; have := eg p; rw [if_pos rfl] at this; omega
            have fd_a : fv1 p = 0 := by have := one p; have := eg p; rw [if_pos rfl] at this; omega
            obtain ⟨ok3, af⟩ := ok2.chg (o := .lst (vs1 ++ [v])) (a := p) (by have := eg p; rw [if_pos rfl] at this; omega)
            have up : ∀ b, b ≠ p → (upd H1 p (.lst (vs1 ++ [v]))) b = H1 b := fun b hb => upd_ne hb
            have rs2 := rs.mono (Hs' := Hs1) (H' := upd H1 p (.lst (vs1 ++ [v]))) (Same.refl _) fun b hb => ⟨up b fun z => hb (by rw [z]; exact g_a), (rs.live b hb).2⟩
            have rd2 := r1.mono (Hs' := Hs1) (H' := upd H1 p (.lst (vs1 ++ [v]))) (Same.refl _) fun b hb => ⟨up b fun z => hb (by rw [z]; exact fd_a), (r1.live b hb).2⟩
            have ok4 : Ok C Hs1 (upd H1 p (.lst (vs1 ++ [v]))) σ { e1 with sl := e1.sl.set i none } g2 (fun b => ((fun b => g b + fv1 b) b + if b = p then 1 else 0) + f0 b) P := ok3.less fun b => by have := eg b; show g b + fv1 b + (if b = p then 1 else 0) + 0 ≤ g1 b + fv1 b; omega
            refine q1 .non Hs1 _ _ f0 (a1.trans af) (put (e' := e1) (ok4.fps (fun _ => rfl) (fx' := fun b => (fun b => (fun b => g b + fv1 b) b + if b = p then 1 else 0) b + f0 b) fun _ => rfl) (.own (k := .lst) upd_same rfl nHs (rs2.app (.cons rd2 (.nil (f := f0) fun _ => rfl) (h := fv1) fun b => rfl) fun b => rfl) fun b => rfl)) r_non
        · rw [if_neg hlim] at q1; exact q1.elim
/-- x op= a -/
theorem bs_aug {op : Operator} {x : Str} {pos' : Pos} {r : R2} {g : D → D → Option D} (hN : X.N.Nodup) (hi : X.N[i]? = some x) (hl : Loc X.env.scope x) (hp : npin C i) (ho : OpR X (inplaceOp op) r) (hs : OpS C.toGc r g) (ha : BE X C W a Fa)
    (hf : X.fn x = true ∨ X.env.scope.names.lookup x = some .local) : BS X C W (.AugAssign (.Name x pos') op a pos) (fAug i g Fa) :=
  (ps_aug hN hi hl ha (ti := r) (fun pins s σ H x y v u Q I rx ry h => ho pins s σ H x y v u Q I rx ry h) hf).imp fun N σ H ⟨e, Hs, fe, P, ok, q⟩ => by
    unfold fAug at q
    cases h1 : e.sl[i]? with
    | none => rw [h1] at q; exact q.elim
    | some o =>
      cases o with
      | none => rw [h1] at q; exact q.elim
      | some d =>
        rw [h1] at q
        dsimp only at q
        by_cases hd : d.sc = true
        · rw [if_pos hd] at q
          obtain ⟨v0, f1, f2, hv, r0, _⟩ := ok.slot h1
          refine ⟨v0, hv, ?_⟩
          refine firstE ok (EndS.bind q σ) fun y e1 v Hs1 H1 fe1 fv1 a1 ok1 r1 q1 => ?_
          obtain ⟨Hs3, a3, ok3, r3, _⟩ := (ok1.fps (fun _ => rfl) (fx' := fun b => fv1 b + f0 b) fun _ => rfl).freeze r1
          have q3 := q1.shift (a1.trans a3)
          cases h : ((g d (frz y)).map fun z => e1.put i z) with
          | none => rw [h] at q3; exact q3.elim
          | some e5 =>
            rw [h] at q3
            obtain ⟨z, hz, rfl⟩ := Option.map_eq_some_iff.mp h
            have r0' : Rp C.toGc Hs3 H1 v0 d f0 := (r0.f0 hd).mono (a1.trans a3).sh fun b hb => absurd rfl hb
            refine hs ok3.sm r0' r3 hz fun w Hs5 H5 fw n rw' => ?_
            have ok5 := (ok3.new n fun _ h => absurd rfl h).fps (fe' := fe1) (fx' := fun b => fw b + f0 b) (fun _ => rfl) fun b => by show fw b + 0 = 0 + fw b; omega
            have hil : i < e1.sl.length := by
              have h3 := ok.sl.len
              have h4 := ok1.sl.len
              have := (List.getElem?_eq_some_iff.mp h1).1
              omega
            obtain ⟨fe', ok6⟩ := ok5.put rw' hil hp
            exact q3 _ Hs5 H5 fe' (n.aft ok3) ok6
        · rw [if_neg hd] at q; exact q.elim
/-- x[y] op= a -/
theorem bs_augN {op : Operator} {tpos : Pos} {o : Expr} {r : R2} {g : D → D → Option D} (hk : X.K = C.K) (hn : PE X o (tVar i)) (hb : BE X C W b Fb) (ho : OpR X (inplaceOp op) r) (hs : OpS C.toGc r g) (ha : BE X C W a Fa)
    (hst : ∀ ov iv new, augStore b ov iv new = (do holding [new, ov, iv] (setItem ov iv new); release [new, ov, iv] []; pure .next)) : BS X C W (.AugAssign (.Subscript o b tpos) op a pos) (fAugN i g Fb Fa) :=
  (ps_augS hn hb pget_list ha (tip := r) (fun pins s σ H x y v u Q I rx ry h => ho pins s σ H x y v u Q I rx ry h) set_list hst).imp fun N σ H ⟨e, Hs, fe, P, ok, q⟩ => by
    unfold fAugN at q
    by_cases ho : (e.own i).isSome = true
    · rw [if_pos ho] at q
      obtain ⟨k0, xs0, ho'⟩ := En.own_at ho
      obtain ⟨v0, _, _, hv, _⟩ := ok.slot (En.own_some ho')
      refine ⟨v0, hv, ?_⟩
      refine firstE ok (EndS.bind q σ) fun y e1 w Hs1 H1 fe1 fv1 a1 ok1 r1 q1 => ?_
      obtain ⟨Hs2, a2, ok2, r2, _⟩ := (ok1.fps (fun _ => rfl) (fx' := fun b => fv1 b + f0 b) fun _ => rfl).freeze r1
      have q2 := q1.shift (a1.trans a2)
      split at q2
      · rename_i xs h1
        split at q2
        · rename_i j hj
          split at q2
          · rename_i d hd
            by_cases hsc : d.sc = true
            · rw [if_pos hsc] at q2
              obtain ⟨v1, g1, g2, e1', rr, _⟩ := ok2.slot (En.own_some h1)
              rw [hv] at e1'; cases e1'
              obtain ⟨p, vs, gg, rfl, hH, rs, le⟩ := rr.lst ok2.sm
              obtain ⟨u, _, _, hu, ru, _⟩ := rs.get hd
              have hji : ∃ i', frz y = .int i' ∧ ixN xs.length i' = some j := by
                unfold cpos at hj
                dsimp only at hj
                split at hj
                · rename_i i' hy; exact ⟨i', hy, hj⟩
                · cases hj
              obtain ⟨i', hy, hix⟩ := hji
              rw [hy] at r2
              rw [r2.toI]
              refine ⟨p, vs, i', u, rfl, rfl, SqL.of hH, by unfold atI; rw [rs.len, hix]; exact hu, ?_⟩
              refine firstE ok2 (EndS.bind q2 σ) fun w2 e4 v4 Hs4 H4 fe4 fv4 a4 ok4 r4 q4 => ?_
              obtain ⟨Hs5, a5, ok5, r5, _⟩ := (ok4.fps (fun _ => rfl) (fx' := fun b => fv4 b + f0 b) fun _ => rfl).freeze r4
              have q5 := q4.shift (a4.trans a5)
              cases h : ((g d (frz w2)).bind fun z => (e4.ownL i).bind fun xs => (setD .lst xs (frz y) z).map fun d' => e4.put i d') with
              | none => rw [h] at q5; exact q5.elim
              | some e6 =>
                rw [h] at q5
                obtain ⟨z, hz, h2⟩ := Option.bind_eq_some_iff.mp h
                obtain ⟨xs4, h3, h4⟩ := Option.bind_eq_some_iff.mp h2
                obtain ⟨d', h5, rfl⟩ := Option.map_eq_some_iff.mp h4
                have ru' : Rp C.toGc Hs5 H4 u d f0 := (ru.f0 hsc).mono (a4.trans a5).sh fun b hb => absurd rfl hb
                refine hs ok5.sm ru' r5 hz fun w Hs7 H7 fw n rw' => ?_
                have ok7 := (ok5.new n fun _ h => absurd rfl h).fps (fe' := fe4) (fx' := fw) (fun _ => rfl) fun b => by show fw b = 0 + fw b; omega
                have rk : Rp C.toGc Hs7 H7 (.int i') (frz y) f0 := by rw [hy]; exact r_int _
                have ho4 : e4.own i = some (.lst, xs4) := by unfold En.own; rw [En.ownL_some h3]
                rcases ok7.store' ho4 hv rk rw' h5 (Q := N.nx σ) fun H' fe' a8 ok8 => q5 σ Hs7 H' fe' ((n.aft ok5).trans a8) ok8 with h | h
                · exact h.2
                · exact absurd rfl h.1
            · rw [if_neg hsc] at q2; exact q2.elim
          · exact q2.elim
        · exact q2.elim
      · exact q2.elim
    · rw [if_neg ho] at q; exact q.elim
end
end Bx

set_option Elab.async false
set_option linter.all false
set_option maxRecDepth 100000
set_option maxHeartbeats 1000000
/-! Defs and their calls. -/
namespace Bx
open PySem L2

inductive CR where
  | bad | ok (d : D) (outs : List (Option D)) | exc (x : Exc) (outs : List (Option D))
section
variable (G : Gc)
def EndC (r : CR) (vs : List V) (Hs H : Hp) (P : Addr → Prop) (Q : VK) (E : XK) : Prop := match r with
  | .bad => False
  | .ok d outs => ∀ v Hs' H' fv fo, Aft Hs H Hs' H' P → Wf Hs' H' (fun b => fo b + fv b) P → Rp G Hs' H' v d fv → Sls G Hs' H' (vs.map some) outs fo → Q v H'
  | .exc x outs => ∀ dd Hs' H' fo, Aft Hs H Hs' H' P → Wf Hs' H' fo P → Sls G Hs' H' (vs.map some) outs fo → ExD G Hs' H' dd x → E (.ref (G.ca x.c)) (some dd) H'
def spD (n : Nat) (F : List D → CR) : Sp := fun vs H Q E => vs.length = n ∧ ∃ ds Hs fa P, Wf Hs H fa P ∧ Rps G Hs H vs ds fa ∧ EndC G (F ds) vs Hs H P Q E
end
def outs (io : List Nat) : Nat → Nat → List (Option D) → List (Option D)
  | _, 0, _ => []
  | j, n + 1, [] => none :: outs io (j + 1) n []
  | j, n + 1, o :: E => (if io.contains j then o else none) :: outs io (j + 1) n E
def fDef (N : Nat) (io : List Nat) (body : FS) : List D → CR := fun ds => match body ⟨ds.map some ++ List.replicate (N - ds.length) none, none⟩ with
  | .nx e => .ok .non (outs io 0 ds.length e.sl)
  | .rt d e => .ok d (outs io 0 ds.length e.sl)
  | .exc x e => .exc x (outs io 0 ds.length e.sl)
  | _ => .bad
def pinsOf (io : List Nat) (vs : List V) : List (Nat × V) := io.filterMap fun i => (vs[i]?).map fun v => (i, v)
theorem npin_of {io : List Nat} {vs : List V} {i : Nat} {G : Gc} {xa : Option (Addr × Value × Option Addr)} (h : io.contains i = false) : npin ⟨G, pinsOf io vs, xa⟩ i := fun p hp e => by
  obtain ⟨j, hj, h2⟩ := List.mem_filterMap.mp hp
  obtain ⟨v, _, h3⟩ := Option.map_eq_some_iff.mp h2
  have : j = i := by rw [← e, ← h3]
  subst this
  rw [List.contains_iff_mem.mpr hj] at h
  cases h
theorem npins_of {io own : List Nat} {vs : List V} {G : Gc} {xa : Option (Addr × Value × Option Addr)} (h : io.all (fun j => !own.contains j) = true) : ∀ p ∈ (⟨G, pinsOf io vs, xa⟩ : Cc).pins, p.1 ∉ own := fun p hp z => by
  obtain ⟨j, hj, h2⟩ := List.mem_filterMap.mp hp
  obtain ⟨v, _, h3⟩ := Option.map_eq_some_iff.mp h2
  have h4 := List.all_eq_true.mp h j hj
  rw [← h3] at z
  simp only [Bool.not_eq_true'] at h4
  rw [List.contains_iff_mem.mpr z] at h4
  cases h4
section
variable {G : Gc} {Hs H : Hp}
theorem Rps.slots : ∀ {vs : List V} {ds : List D} {f : Fp} (k : Nat), Rps G Hs H vs ds f → Sls G Hs H (vs.map some ++ List.replicate k none) (ds.map some ++ List.replicate k none) f
  | _, _, _, 0, .nil z => .nil z
  | _, _, f, k + 1, .nil z => .no (Rps.slots (vs := []) (ds := []) k (.nil z))
  | _, _, _, k, .cons r rs e => .yes r (Rps.slots k rs) e
theorem Sls.outs (io : List Nat) : ∀ {vs : List V} {σ : L2.St} {E : List (Option D)} {f : Fp} {j : Nat}, Sls G Hs H σ E f → (∀ (i : Nat) (v : V), vs[i]? = some v → io.contains (j + i) = true → σ[i]? = some (some v)) → ∃ fo : Fp, (∀ b, fo b ≤ f b) ∧ Sls G Hs H (vs.map some) (outs io j vs.length E) fo
  | [], _, _, f, j, _, _ => ⟨f0, fun b => Nat.zero_le _, .nil fun _ => rfl⟩
  | v :: vs, _, _, f, j, .nil z, k => by
    obtain ⟨fo, h1, h2⟩ := Sls.outs io (vs := vs) (σ := []) (E := []) (f := f) (j := j + 1) (.nil z) fun i w hw hc => by
      have := k (i + 1) w (by simpa using hw) (by rw [show j + (i + 1) = j + 1 + i by omega]; exact hc)
      simp at this
    exact ⟨fo, h1, .no h2⟩
  | v :: vs, _, _, f, j, .no (o := o) (σ := σ) (e := E) r, k => by
    obtain ⟨fo, h1, h2⟩ := Sls.outs io (vs := vs) (j := j + 1) r fun i w hw hc => by
      have := k (i + 1) w (by simpa using hw) (by rw [show j + (i + 1) = j + 1 + i by omega]; exact hc)
      simpa using this
    refine ⟨fo, h1, ?_⟩
    rw [List.map_cons, List.length_cons]
    unfold Bx.outs
    have : (if io.contains j = true then (none : Option D) else none) = none := by split <;> rfl
    rw [this]
    exact .no h2
  | v :: vs, _, _, f, j, .yes (v := w0) (d := d) (f := fd) (σ := σ) (e := E) (g := g) r rs q, k => by
    obtain ⟨fo, h1, h2⟩ := Sls.outs io (vs := vs) (j := j + 1) rs fun i w hw hc => by
      have := k (i + 1) w (by simpa using hw) (by rw [show j + (i + 1) = j + 1 + i by omega]; exact hc)
      simpa using this
    rw [List.map_cons, List.length_cons]
    unfold Bx.outs
    by_cases hc : io.contains j = true
    · rw [if_pos hc]
      have := k 0 v rfl (by simpa using hc)
      simp at this
      subst this
      exact ⟨fun b => fd b + fo b, fun b => by have := q b; have := h1 b; show fd b + fo b ≤ _; omega, .yes r h2 fun b => rfl⟩
    · rw [if_neg hc]
      exact ⟨fo, fun b => by have := q b; have := h1 b; omega, .no h2⟩
theorem Wf.less {f f' : Fp} {P : Addr → Prop} (w : Wf Hs H f P) (h : ∀ b, f' b ≤ f b) : Wf Hs H f' P :=
  ⟨w.sm, fun b => by have := w.one b; have := h b; omega, fun b hb => w.own b (by have := h b; omega), fun b hb => by have := w.apart b hb; have := h b; omega, w.live⟩
end
/-- the wish of a def about its exceptions -/
abbrev WD (E : XK) : WX := fun cls d _ H => E cls d H
section
variable {P : Program} {w : World} {K : PySem.W.Frag} {mg : Str → Option Value} {base : Heap}
theorem def_ok {ca : Str → Addr} {x qual : Str} {st : Stmt} {f : Addr} {fd : FuncData} {N ps : List Str} {k : Nat} {io : List Nat} {body : FS} (F : Fun K x qual st f fd) (S : FnScope N ps (defScope st)) (hn : ps.length ≤ N.length)
    (hb : ∀ (cdv : Value) (A : Around) (outer : List Env) (s : Shared) (H : Hp) (vs : List V) (E : XK), Room k (A.deeper (PyProof.Rows.envOfC qual (defScope st) s.heap.objs.size f cdv)) →
      BSs (cxOf (L2.CX P w) P w K mg base N qual (defScope st) f cdv A outer s H E) ⟨⟨K, ca⟩, pinsOf io vs, none⟩ (WD E) (defBody st) body) : FnOk P w K mg base (L2.CX P w) (k + 1) f fd ps (spD ⟨K, ca⟩ ps.length (fDef N.length io body)) := by
  refine F.okX S (fun vs H Q E h => h.1) (fun cdv A outer s H vs Q E hr h => ⟨_, hb cdv A outer s H vs E hr, ?_⟩)
  obtain ⟨hl, ds, Hs, fa, Pr, wf, r, q⟩ := h
  have hds : ds.length = vs.length := r.len.symm
  have hs0 : Sls ⟨K, ca⟩ Hs H (L2.start N vs) (ds.map some ++ List.replicate (N.length - ds.length) none) fa := by
    unfold L2.start
    rw [hds]
    exact r.slots _
  refine ⟨⟨ds.map some ++ List.replicate (N.length - ds.length) none, none⟩, Hs, fa, Pr, ⟨wf, hs0, fun p hp => ?_, trivial⟩, ?_⟩
  · obtain ⟨j, hj, h2⟩ := List.mem_filterMap.mp hp
    obtain ⟨v, hv, rfl⟩ := Option.map_eq_some_iff.mp h2
    unfold L2.start
    have := (List.getElem?_eq_some_iff.mp hv).1
    rw [List.getElem?_append_left (by rw [List.length_map]; exact this), List.getElem?_map, hv]; rfl
  · unfold fDef at q
    -- the parameters that are handed out
    have out : ∀ {σ' : L2.St} {e' : En} {Hs' H' : Hp} {fe' fx : Fp}, Ok ⟨⟨K, ca⟩, pinsOf io vs, none⟩ Hs' H' σ' e' fe' fx Pr → ∃ fo : Fp, (∀ b, fo b ≤ fe' b) ∧ Sls ⟨K, ca⟩ Hs' H' (vs.map some) (outs io 0 ds.length e'.sl) fo := by
      intro σ' e' Hs' H' fe' fx ok
      rw [hds]
      refine Sls.outs io ok.sl fun i v hv hc => ?_
      have hm : (i, v) ∈ pinsOf io vs := List.mem_filterMap.mpr ⟨i, List.contains_iff_mem.mp (by simpa using hc), by rw [hv]; rfl⟩
      exact ok.pn _ hm
    generalize body ⟨ds.map some ++ List.replicate (N.length - ds.length) none, none⟩ = rr at q ⊢
    cases rr with
    | bad => exact q
    | bk e => exact False.elim q
    | ct e => exact False.elim q
    | nx e =>
      exact fun σ' Hs' H' fe' af ok => by
        obtain ⟨fo, le, so⟩ := out ok
        exact q .non Hs' H' f0 fo af (ok.wf.less fun b => by have := le b; show fo b + 0 ≤ fe' b + 0; omega) r_non so
    | rt d e =>
      exact fun v σ' Hs' H' fe' fv af ok rv => by
        obtain ⟨fo, le, so⟩ := out ok
        exact q v Hs' H' fv fo af (ok.wf.less fun b => by have := le b; omega) rv so
    | exc x e =>
      exact fun dd σ' Hs' H' fe' af ok ex => by
        obtain ⟨fo, le, so⟩ := out ok
        exact q dd Hs' H' fo af (ok.wf.less fun b => by have := le b; show fo b ≤ fe' b + 0; omega) so ex
end

/-! ### calls -/
def takeA : En → List AV → Option (List D × En)
  | e, [] => some ([], e)
  | e, .d x :: as => (takeA e as).map fun (ds, e2) => (x :: ds, e2)
  | e, .io i :: as => match e.sl[i]? with
    | some (some d) => (takeA (e.del i) as).map fun (ds, e2) => (d :: ds, e2)
    | _ => none
def putA : List AV → List (Option D) → En → Option En
  | [], _, e => some e
  | .d _ :: as, _ :: os, e => putA as os e
  | .io i :: as, some d :: os, e => match e.sl[i]? with
    | some none => putA as os (e.put i d)
    | _ => none
  | _, _, _ => none
def eCall (n : Nat) (F : List D → CR) (as : FA) : FE := fun e => (as e).bind fun as e1 => match takeA e1 as with
  | some (ds, e2) => if ds.length = n then (match F ds with
    | .ok d os => (match putA as os e2 with
      | some e3 => .ok d e3
      | none => .bad)
    | .exc x os => (match putA as os e2 with
      | some e3 => .exc x e3
      | none => .bad)
    | .bad => .bad) else .bad
  | none => .bad
section
variable {G : Gc} {Hs H : Hp} {σ : L2.St}
theorem Ra.take : ∀ {vs : List V} {as : List AV} {f fe : Fp} {e e2 : En} {ds : List D}, Ra G Hs H σ vs as f → Sls G Hs H σ e.sl fe → takeA e as = some (ds, e2) →
    ∃ (fa fe2 : Fp), Rps G Hs H vs ds fa ∧ Sls G Hs H σ e2.sl fe2 ∧ (∀ b, fe b + f b = fa b + fe2 b) ∧ e2.ex = e.ex
  | _, _, f, fe, e, _, _, .nil z, s, h => by cases h; exact ⟨f0, fe, .nil fun _ => rfl, s, fun b => by have := z b; show _ = 0 + fe b; omega, rfl⟩
  | _, _, _, fe, e, e2, ds, .d (x := x) (as := as) (f := f1) (g := g1) r rs q, s, h => by
    unfold takeA at h
    obtain ⟨⟨ds', e3⟩, h1, h2⟩ := Option.map_eq_some_iff.mp h
    cases h2
    obtain ⟨fa, fe2, k1, k2, k3, k4⟩ := Ra.take rs s h1
    exact ⟨fun b => f1 b + fa b, fe2, .cons r k1 fun b => rfl, k2, fun b => by have := k3 b; have := q b; show _ = f1 b + fa b + fe2 b; omega, k4⟩
  | _, _, f, fe, e, e2, ds, .io (v := v) (i := i) (as := as) hs rs, s, h => by
    unfold takeA at h
    split at h
    · rename_i d hd
      obtain ⟨⟨ds', e3⟩, h1, h2⟩ := Option.map_eq_some_iff.mp h
      cases h2
      obtain ⟨w, f1, f2, hw, rw', ef, s2⟩ := s.get hd
      rw [hs] at hw; cases hw
      obtain ⟨fa, fe2, k1, k2, k3, k4⟩ := Ra.take (e := e.del i) rs s2 h1
      exact ⟨fun b => f1 b + fa b, fe2, .cons rw' k1 fun b => rfl, k2, fun b => by have := k3 b; have := ef b; show _ = f1 b + fa b + fe2 b; omega, k4⟩
    · cases h
theorem Ra.put : ∀ {vs : List V} {as : List AV} {fo fe : Fp} {e e3 : En} {os : List (Option D)} {Hs0 H0 : Hp} {f : Fp}, Ra G Hs0 H0 σ vs as f → Sls G Hs H (vs.map some) os fo → Sls G Hs H σ e.sl fe → putA as os e = some e3 →
    ∃ fe3 : Fp, Sls G Hs H σ e3.sl fe3 ∧ (∀ b, fe3 b ≤ fe b + fo b) ∧ e3.ex = e.ex
  | _, _, fo, fe, e, _, os, _, _, _, .nil z, so, s, h => by
    unfold putA at h; cases h; exact ⟨fe, s, fun b => by omega, rfl⟩
  | _, _, fo, fe, e, e3, os, _, _, _, .d (x := x) (as := as) r rs q, so, s, h => by
    cases so with
    | no so => exact Ra.put rs so s h
    | yes r2 so q2 =>
      obtain ⟨fe3, k1, k2, k3⟩ := Ra.put rs so s h
      exact ⟨fe3, k1, fun b => by have := k2 b; have := q2 b; omega, k3⟩
  | _, _, fo, fe, e, e3, os, _, _, _, .io (v := v) (i := i) (as := as) hs rs, so, s, h => by
    cases so with
    | no so => unfold putA at h; cases h
    | @yes _ d f2 _ _ g _ r2 so q2 =>
      unfold putA at h
      split at h
      · rename_i hn
        have s2 := s.put hn r2 (h := fun b => f2 b + fe b) fun b => rfl
        have e4 : σ.set i (some v) = σ := by
          obtain ⟨hl, hv⟩ := List.getElem?_eq_some_iff.mp hs
          rw [← hv]; exact List.set_getElem_self hl
        rw [e4] at s2
        obtain ⟨fe3, k1, k2, k3⟩ := Ra.put (e := e.put i d) rs so s2 h
        exact ⟨fe3, k1, fun b => by have h1 := k2 b; have h2 := q2 b; have h3 : (fun b => f2 b + fe b) b = f2 b + fe b := rfl; omega, k3⟩
      · cases h
end
section
variable {X : Cx} {C : Cc} {W : WX} {pos : Pos} {a : Expr} {es : List Expr} {As : FA}
/-- the call itself: the arguments at hand, the callee's promise -/
theorem call_read {F : List D → CR} {n : Nat} {σ : L2.St} {H : Hp} {Q : VK} (h : canE C W (eCall n F As) σ H Q) : canA C W As σ H fun vs H1 => spD C.toGc n F vs H1 Q (WE W σ) := by
  obtain ⟨e, Hs, fe, P, ok, q⟩ := h
  refine firstA ok q.bind fun as e1 vs Hs1 H1 fe1 fv1 a1 ok1 r1 q1 => ?_
  have q2 := q1.shift a1
  cases ht : takeA e1 as with
  | none => rw [ht] at q2; exact q2.elim
  | some de =>
    obtain ⟨ds, e2⟩ := de
    rw [ht] at q2
    dsimp only at q2
    by_cases hn : ds.length = n
    rotate_left
    · rw [if_neg hn] at q2; exact q2.elim
    rw [if_pos hn] at q2
    obtain ⟨fa, fe2, rd, s2, ef, ex2⟩ := r1.take ok1.sl ht
    have one := ok1.wf.one
    refine ⟨rd.len.trans hn, ds, Hs1, fa, fun b => P b ∨ fe2 b ≠ 0, ⟨ok1.wf.sm, fun b => by have := one b; have := ef b; omega, fun b hb => ok1.wf.own b (by have := ef b; omega), fun b hb => by
      rcases hb with hb | hb
      · have := ok1.wf.apart b hb; have := ef b; omega
      · have := one b; have := ef b; omega, fun b hb => by
      rcases hb with hb | hb
      · exact ok1.wf.live b hb
      · exact (s2.live b hb).1⟩, rd, ?_⟩
    -- the state behind the call
    have back : ∀ {Hs' H' : Hp} {fo fv : Fp} {os : List (Option D)} {e3 : En}, Aft Hs1 H1 Hs' H' (fun b => P b ∨ fe2 b ≠ 0) → Wf Hs' H' (fun b => fo b + fv b) (fun b => P b ∨ fe2 b ≠ 0) → Sls C.toGc Hs' H' (vs.map some) os fo → putA as os e2 = some e3 →
        ∃ fe3, Ok C Hs' H' σ e3 fe3 fv P := by
      intro Hs' H' fo fv os e3 af wf so hp
      have s3 := s2.mono (Hs' := Hs') (H' := H') af.sh fun b hb => ⟨(af.keep b (.inr hb)).1, by rw [(af.keep b (.inr hb)).2]; exact ok1.wf.own b (by have := ef b; omega)⟩
      obtain ⟨fe3, s4, le, ex3⟩ := r1.put so s3 hp
      refine ⟨fe3, ⟨wf.sm, fun b => ?_, fun b hb => ?_, fun b hb => ?_, fun b hb => wf.live b (.inl hb)⟩, s4, ok1.pn, by rw [ex3, ex2]; exact ok1.ex.mono af.sh⟩
      · have h1 := le b; have h2 := wf.one b; have h3 := one b; have h4 := ef b
        by_cases z : fe2 b = 0
        · omega
        · have := wf.apart b (.inr z); omega
      · have h1 := le b
        by_cases z : fe2 b = 0
        · exact wf.own b (by omega)
        · rw [(af.keep b (.inr z)).2]; exact ok1.wf.own b (by have := ef b; omega)
      · have h1 := le b; have h2 := wf.apart b (.inl hb); have h3 := ok1.wf.apart b hb; have h4 := ef b
        omega
    cases hF : F ds with
    | bad => rw [hF] at q2; exact q2
    | ok d os =>
      rw [hF] at q2
      dsimp only at q2
      intro v Hs' H' fv fo af wf rv so
      cases hp : putA as os e2 with
      | none => rw [hp] at q2; exact q2.elim
      | some e3 =>
        rw [hp] at q2
        obtain ⟨fe3, ok3⟩ := back af wf so hp
        exact q2 v Hs' H' fe3 fv (af.weak fun b hb => .inl hb) ok3 rv
    | exc x os =>
      rw [hF] at q2
      dsimp only at q2
      intro dd Hs' H' fo af wf so ex
      cases hp : putA as os e2 with
      | none => rw [hp] at q2; exact q2.elim
      | some e3 =>
        rw [hp] at q2
        obtain ⟨fe3, ok3⟩ := back (fv := f0) af wf so hp
        exact q2 dd Hs' H' fe3 (af.weak fun b hb => .inl hb) ok3 ex
end
end Bx

set_option Elab.async false
set_option linter.all false
set_option maxRecDepth 100000
set_option maxHeartbeats 1000000
/-! Calls in place, the law's end, exceptions. -/
namespace Bx
open PySem L2

section
variable {X : Cx} {C : Cc} {W : WX} {pos : Pos} {a : Expr} {es : List Expr} {As : FA}
theorem be_call {k n : Nat} {f : Addr} {fd : FuncData} {ps : List Str} {Fn : List D → CR} {x : Str} {p : Pos} (F : FnOk X.prog X.w X.K X.mg X.base (L2.CX X.prog X.w) k f fd ps (spD C.toGc n Fn)) (hr : Room k X.A) (hg : Gl X x) (hm : X.mg x = some (.ref f)) (hk : PySem.W.keepIn X.K (.ref f) = true)
    (hb : Binds X.K fd ps []) (tk : Takes X W) (ha : BA X C W (a :: es) As) (hdb : (x == ("__debug__" : Str)) = false) (he : starEach (a :: es) X.env = (false, eval a X.env) :: starEach es X.env) (hpl : (backTo pos (starEach es X.env)).any (·.1) = false) :
    BE X C W (.Call (.Name x p) (a :: es) [] pos) (eCall n Fn As) :=
  (pe_callS F hr hg hm hk hb (E := WE W) (fun σ => passAt tk σ) ha hdb he hpl).imp fun σ H Q h => call_read h
theorem be_call0 {k n : Nat} {f : Addr} {fd : FuncData} {ps : List Str} {Fn : List D → CR} {x : Str} {p : Pos} (F : FnOk X.prog X.w X.K X.mg X.base (L2.CX X.prog X.w) k f fd ps (spD C.toGc n Fn)) (hr : Room k X.A) (hg : Gl X x) (hm : X.mg x = some (.ref f)) (hk : PySem.W.keepIn X.K (.ref f) = true)
    (hb : Binds X.K fd ps []) (tk : Takes X W) (hdb : (x == ("__debug__" : Str)) = false) : BE X C W (.Call (.Name x p) [] [] pos) (eCall n Fn aNil) := by
  refine ⟨fun pins s σ H Q I h => ?_⟩
  refine wpAny_Call_Name_kw (ld_glob I hg hm ?_ hdb)
  have h2 := call_read h
  obtain ⟨e, Hs, fe, P, ok, q⟩ := h2
  have q2 := q [] Hs H fe f0 (Aft.refl _ _ _) ok (.nil fun _ => rfl)
  exact PySem.W.callWith_K0 I.kIn hk (run_fnS (us := []) F hr hb (passAt tk σ) I .nil q2)
end

/-- the law's own promise -/
theorem law_sp {K : PySem.W.Frag} {ca : Str → Addr} {F : List D → CR} {H : Hp} {p : Addr} {ns : List Int} {os : List (Option D)} {E : XK} (hF : F [.nd .wl false (ns.map D.int)] = .ok (.bl true) os) (hS : SqL K H p (ns.map V.int)) :
    spD ⟨K, ca⟩ 1 F [.ref p] H (fun v _ => v = .bl true) E := by
  have ri : ∀ ns : List Int, Rps ⟨K, ca⟩ H H (ns.map V.int) (ns.map D.int) f0 := fun ns => by
    induction ns with
    | nil => exact .nil fun _ => rfl
    | cons n ns ih => exact .cons (r_int n) ih fun _ => rfl
  refine ⟨rfl, [.nd .wl false (ns.map D.int)], H, f0, fun _ => False, ⟨fun a o h => .inl h, fun b => Nat.zero_le _, fun b hb => absurd rfl hb, fun b hb => hb.elim, fun b hb => hb.elim⟩, .cons (.sh hS (ri ns) fun _ => rfl) (.nil (f := f0) fun _ => rfl) fun _ => rfl, ?_⟩
  rw [hF]
  exact fun v Hs' H' fv fo _ _ rv _ => rv.toB

/-! ### raise -/
/-- an own exception's __init__: the attributes fns in this order -/
def spXi (Ca : Addr) (fns : List Str) : Sp := fun vs H Q _ => ∃ (a : Addr) (xs : List V), vs = .ref a :: xs ∧ xs.length = fns.length ∧ H a = some (exo a Ca none) ∧
  ∀ d H', H d = none → d ≠ a → H' a = some (exo a Ca (some d)) → H' d = some (exd d (fns.zip xs).reverse) → (∀ b, b ≠ a → b ≠ d → H' b = H b) → Q .non H'
section
variable {K : PySem.W.Frag} {Ca : Addr} {H : Hp} {Q : VK} {E : XK} {vs : List V} {x y z : Str} {N : List Str}
theorem xi1 (T : OexC K Ca) (nx : PySem.W.findIn K (.ref Ca) x = some none) (h : spXi Ca [x] vs H Q E) (k : Nat) : tOst K x (tVar 0) (tVar 1) { nx := fun _ H' => Q .non H', rt := Q } (vs.map some ++ List.replicate k none) H := by
  obtain ⟨a, xs, rfl, hl, ha, q⟩ := h
  obtain ⟨v, rfl⟩ : ∃ v, xs = [v] := by
    match xs, hl with
    | [v], _ => exact ⟨v, rfl⟩
  refine ⟨v, rfl, .ref a, rfl, a, Ca, rfl, T, nx, .inl ⟨ha, fun d hd hda => q d _ hd hda upd_same ?_ fun b h1 h2 => by rw [upd_ne h1, upd_ne h2]⟩⟩
  rw [upd_ne hda, upd_same]; rfl
theorem xi2 (T : OexC K Ca) (nx : PySem.W.findIn K (.ref Ca) x = some none) (ny : PySem.W.findIn K (.ref Ca) y = some none) (h : spXi Ca [x, y] vs H Q E) (k : Nat) :
    tSeq (tOst K x (tVar 0) (tVar 1)) (tOst K y (tVar 0) (tVar 2)) { nx := fun _ H' => Q .non H', rt := Q } (vs.map some ++ List.replicate k none) H := by
  obtain ⟨a, xs, rfl, hl, ha, q⟩ := h
  obtain ⟨v, w, rfl⟩ : ∃ v w, xs = [v, w] := by
    match xs, hl with
    | [v, w], _ => exact ⟨v, w, rfl⟩
  refine ⟨v, rfl, .ref a, rfl, a, Ca, rfl, T, nx, .inl ⟨ha, fun d hd hda => ?_⟩⟩
  refine ⟨w, rfl, .ref a, rfl, a, Ca, rfl, T, ny, .inr ⟨d, [(x, v)], upd_same, by rw [upd_ne hda, upd_same], by simp, ?_⟩⟩
  refine q d _ hd hda (by rw [upd_ne hda.symm, upd_same]) (by rw [upd_same]; rfl) fun b h1 h2 => by rw [upd_ne h2, upd_ne h1, upd_ne h2]
theorem xi3 (T : OexC K Ca) (nx : PySem.W.findIn K (.ref Ca) x = some none) (ny : PySem.W.findIn K (.ref Ca) y = some none) (nz : PySem.W.findIn K (.ref Ca) z = some none) (h : spXi Ca [x, y, z] vs H Q E) (k : Nat) :
    tSeq (tOst K x (tVar 0) (tVar 1)) (tSeq (tOst K y (tVar 0) (tVar 2)) (tOst K z (tVar 0) (tVar 3))) { nx := fun _ H' => Q .non H', rt := Q } (vs.map some ++ List.replicate k none) H := by
  obtain ⟨a, xs, rfl, hl, ha, q⟩ := h
  obtain ⟨v, w, u, rfl⟩ : ∃ v w u, xs = [v, w, u] := by
    match xs, hl with
    | [v, w, u], _ => exact ⟨v, w, u, rfl⟩
  refine ⟨v, rfl, .ref a, rfl, a, Ca, rfl, T, nx, .inl ⟨ha, fun d hd hda => ?_⟩⟩
  refine ⟨w, rfl, .ref a, rfl, a, Ca, rfl, T, ny, .inr ⟨d, [(x, v)], upd_same, by rw [upd_ne hda, upd_same], by simp, ?_⟩⟩
  refine ⟨u, rfl, .ref a, rfl, a, Ca, rfl, T, nz, .inr ⟨d, [(y, w), (x, v)], by rw [upd_ne hda.symm, upd_same], by rw [upd_same], by simp, ?_⟩⟩
  refine q d _ hd hda (by rw [upd_ne hda.symm, upd_ne hda.symm, upd_same]) (by rw [upd_same]; rfl) fun b h1 h2 => by rw [upd_ne h2, upd_ne h2, upd_ne h1, upd_ne h2]
end
theorem Rps.rev {G : Gc} {Hs H : Hp} : ∀ {vs : List V} {ds : List D} {f : Fp}, Rps G Hs H vs ds f → Rps G Hs H vs.reverse ds.reverse f
  | _, _, _, .nil z => .nil z
  | _, _, f, .cons (f := f1) (g := g) r rs e => by
    rw [List.reverse_cons, List.reverse_cons]
    exact Rps.app rs.rev (.cons r (.nil (f := f0) fun _ => rfl) (h := f1) fun b => rfl) fun b => by rw [e b]; omega
def fRaise (c : Str) (fns : List Str) (as : FA) : FS := fun e => (as e).toS fun as e1 => match dvs as with
  | some ds => if ds.length = fns.length ∧ ds.length ≤ 1000 then .exc ⟨c, fns.reverse, (frzs ds).reverse⟩ e1 else .bad
  | none => .bad
theorem zip_rev {α β : Type} : ∀ {xs : List α} {ys : List β}, xs.length = ys.length → (xs.zip ys).reverse = xs.reverse.zip ys.reverse
  | [], [], _ => rfl
  | [], _ :: _, h => by cases h
  | _ :: _, [], h => by cases h
  | x :: xs, y :: ys, h => by
    have h' : xs.length = ys.length := by simpa using h
    rw [List.zip_cons_cons, List.reverse_cons, List.reverse_cons, List.reverse_cons, List.zip_append (by simp [h']), zip_rev h']; rfl
section
variable {X : Cx} {C : Cc} {W : WX} {pos : Pos} {a : Expr} {es : List Expr} {As : FA}
theorem bs_raise {k : Nat} {fI Ca : Addr} {fd : FuncData} {ps fns : List Str} {x : Str} {p pos2 : Pos} (hc : X.calm = true) (tk : Takes X W) (hca : C.ca x = Ca) (T : OexC X.K Ca) (iC : PySem.W.findIn X.K (.ref Ca) "__init__" = some (some (.ref fI))) (tI : PySem.W.typeIn X.K (.ref fI) = some (.type "function"))
    (F1 : FnOk X.prog X.w X.K X.mg X.base (L2.CX X.prog X.w) k fI fd ps (spXi Ca fns)) (hr : Room (k + 1) X.A) (hb : Binds X.K fd ps []) (hg : Gl X x) (hm : X.mg x = some (.ref Ca)) (ha : BA X C W (a :: es) As)
    (hdb : (x == ("__debug__" : Str)) = false) (he : starEach (a :: es) X.env = (false, eval a X.env) :: starEach es X.env) (hpl : (backTo pos (starEach es X.env)).any (·.1) = false) :
    BS X C W (.Raise (some (.Call (.Name x p) (a :: es) [] pos)) none pos2) (fRaise x fns As) :=
  (ps_raise hc tk (pmk_oex T iC tI F1 hr hb .nil passL hg hm ha hdb he hpl)).imp fun N σ H ⟨e, Hs, fe, P, ok, q⟩ => by
    refine firstA ok (q.bind σ) fun as e1 vs Hs1 H1 fe1 fv1 a1 ok1 r1 q1 => ?_
    cases h1 : dvs as with
    | none => rw [h1] at q1; exact q1.elim
    | some ds =>
      rw [h1] at q1
      dsimp only at q1
      by_cases hl : ds.length = fns.length ∧ ds.length ≤ 1000
      · rw [if_pos hl] at q1
        obtain ⟨Hs3, a3, ok3, r3⟩ := ok1.freezes (r1.vals h1)
        have q3 := q1.shift (a1.trans a3)
        have hvl : vs.length = ds.length := (r1.vals h1).len
        refine ⟨by omega, fun ad had => ⟨ad, vs, by rw [List.append_nil], by omega, upd_same, fun d H2 hd hda h2a h2d hoth => ⟨rfl, d, _, h2a, h2d, ?_, ?_⟩⟩⟩
        · rw [upd_ne hda] at hd; exact hd
        · have hd1 : H1 d = none := by rw [upd_ne hda] at hd; exact hd
          have eH : upd (del H2 ad) d (.xd (fns.zip vs).reverse) = upd H1 d (.xd (fns.zip vs).reverse) := by
            funext b
            by_cases hbd : b = d
            · rw [hbd, upd_same, upd_same]
            · rw [upd_ne hbd, upd_ne hbd]
              by_cases hba : b = ad
              · rw [hba, del_same, had]
              · rw [del_ne hba, hoth b hba hbd, upd_ne hba]
          rw [eH, ← hca]
          have n := New.mkS (o := .xd (fns.zip vs).reverse) ok3.sm hd1
          refine q3 d σ _ _ fe1 (n.aft ok3) ((ok3.new n fun _ h => absurd rfl h).fps (fun _ => rfl) fun _ => rfl) ⟨vs.reverse, ?_, by simp; omega, ?_⟩
          · rw [upd_same, zip_rev (by omega)]
          · exact (r3.rev).mono n.sh fun b hb => absurd rfl hb
      · rw [if_neg hl] at q1; exact q1.elim
end

/-! ### try -/
def En.suite (e : En) (i : Nat) (x : Exc) : En := ⟨e.sl.set i none, some x⟩
def En.calm (e : En) (i : Nat) : En := ⟨e.sl.set i none, none⟩
def So.calm (i : Nat) : So → So
  | .nx e => .nx (e.calm i)
  | .bk e => .bk (e.calm i)
  | .ct e => .ct (e.calm i)
  | .rt d e => .rt d (e.calm i)
  | _ => .bad
/-- try: body / except .. as n: suite -/
def fTryAs (i : Nat) (isA : Str → Option Bool) (body suite : FS) : FS := fun e => match body e with
  | .exc x e1 => (match isA x.c with
    | some true => if i < e1.sl.length then (suite (e1.suite i x)).calm i else .bad
    | some false => .exc x e1
    | none => .bad)
  | r => r
def Cc.su (C : Cc) (i : Nat) (a : Addr) (cls : Value) (d : Option Addr) : Cc := ⟨C.toGc, (i, .ref a) :: C.pins, some (a, cls, d)⟩
/-- n.f in the suite -/
def eXf (c f : Str) : FE := fun e => match e.ex with
  | some x => if x.c = c then .opt ((x.fn.zip x.xs).lookup f) e else .bad
  | none => .bad
section
variable {X : Cx} {C : Cc} {W : WX} {pos : Pos} {a : Expr} {es : List Expr} {As : FA} {Sb Ss : FS}
theorem zip_lookup {G : Gc} {Hs H : Hp} {f : Str} : ∀ {fn : List Str} {vs : List V} {xs : List D} {d : D}, Rps G Hs H vs xs f0 → (fn.zip xs).lookup f = some d → ∃ v, (fn.zip vs).lookup f = some v ∧ Rp G Hs H v d f0
  | [], _, _, _, _, h => by simp at h
  | n :: fn, _, _, d, .nil _, h => by simp at h
  | n :: fn, _, _, d, .cons (v := v) (d := d') (f := f1) (g := g1) r rs e, h => by
    rw [List.zip_cons_cons, List.lookup_cons] at h
    have hf : ∀ b, f0 b = f1 b := fun b => by have := e b; simp only [f0] at *; omega
    have hg : ∀ b, f0 b = g1 b := fun b => by have := e b; simp only [f0] at *; omega
    by_cases hfn : (f == n) = true
    · rw [hfn] at h
      dsimp only at h
      cases h
      exact ⟨v, by rw [List.zip_cons_cons, List.lookup_cons, hfn], r.fp hf⟩
    · have hfn' : (f == n) = false := by simpa using hfn
      rw [hfn'] at h
      dsimp only at h
      obtain ⟨w, h1, h2⟩ := zip_lookup (rs.fp hg) h
      exact ⟨w, by rw [List.zip_cons_cons, List.lookup_cons, hfn']; exact h1, h2⟩
theorem be_xf {i : Nat} {ad Ca : Addr} {oe : Obj} {cls : Value} {d : Option Addr} {pn : List (Addr × Obj)} {c f : Str} (T : XfC X.K Ca) (hno : PySem.W.findIn X.K (.ref Ca) f = some none) (hca : C.ca c = Ca) (hz : Zc cls d oe) (hf : ∃ vs, oe.data = .fields vs)
    (ho : PE (X.suite ad ((ad, oe) :: pn)) a (tVar i)) (hb : attributeBase a f X.env (eval a X.env) = eval a X.env) : BE (X.suite ad ((ad, oe) :: pn)) (C.su i ad cls d) W (.Attribute a f pos) (eXf c f) :=
  (pe_xf T hno hz hf ho hb).imp fun σ H Q ⟨e, Hs, fe, P, ok, q⟩ => by
    unfold eXf at q
    cases hx : e.ex with
    | none => rw [hx] at q; exact q.elim
    | some x =>
      rw [hx] at q
      dsimp only at q
      by_cases hxc : x.c = c
      rotate_left
      · rw [if_neg hxc] at q; exact q.elim
      rw [if_pos hxc] at q
      cases hl : (x.fn.zip x.xs).lookup f with
      | none => rw [hl] at q; exact q.elim
      | some dv =>
        rw [hl] at q
        have hex := ok.ex
        rw [hx] at hex
        obtain ⟨a', dd, e1, vs, h1, h2, h3⟩ := hex
        have e1' : (ad, cls, d) = (a', Value.ref ((C.su i ad cls d).ca x.c), some dd) := Option.some.inj e1
        have e2 : ad = a' := congrArg (·.1) e1'
        have e3 : d = some dd := congrArg (·.2.2) e1'
        have hp := ok.pn (i, .ref ad) List.mem_cons_self
        obtain ⟨v, h4, h5⟩ := zip_lookup h3 hl
        refine ⟨.ref ad, hp, rfl, (congrArg (fun z => z.2.1) e1').trans (by rw [hxc]; exact congrArg Value.ref hca), dd, x.fn.zip vs, v, e3, ?_, h4, ?_⟩
        · rcases ok.sm _ _ h1 with h | ⟨z, _⟩
          · exact h
          · exact z.elim
        · exact q v Hs H fe f0 (Aft.refl _ _ _) ok h5
theorem bs_tryAs {i : Nat} {x n : Str} {c : Value} {body suite : List Stmt} {b0 : Stmt} {np pos' : Pos} {isA : Str → Option Bool} (hs : X.stack = X.env :: X.outer) (hf : X.env.frame = some X.env.locals) (hN : X.N.Nodup) (hi : X.N[i]? = some n) (hln : X.env.kindOf n = some .local) (hc : Names X x c) (tk : Takes X W) (hp : npin C i) (hx : C.xa = none)
    (hk : X.K = C.K) (hA : ∀ c' b, isA c' = some b → PySem.W.exmOne C.K (.ref (C.ca c')) c = some b)
    (hb : ∀ (W' : WX) (pn : List (Addr × Obj)) (xe : Value → Shared → Prop), Takes (X.tr pn xe) W' → PassesOwn (model X.prog X.w) X.A X.env xe → BSs (X.tr pn xe) C W' body Sb)
    (hsu : ∀ (a : Addr) (oe : Obj) (cls : Value) (d : Option Addr) (pn : List (Addr × Obj)), Zc cls d oe → (∃ vs, oe.data = .fields vs) → BSs (X.suite a ((a, oe) :: pn)) (C.su i a cls d) W0 (b0 :: suite) Ss) :
    BS X C W (.Try body [.ExceptHandler (some (.Name x np)) (some n) (b0 :: suite) pos'] [] [] pos) (fTryAs i isA Sb Ss) :=
  (ps_try_as hs hf hN hi hln hc tk (tb := fun W' => canS C W' Sb) (ts := fun a cls d => canS (C.su i a cls d) W0 Ss) hb hsu).imp fun N σ H ⟨e, Hs, fe, P, ok, q⟩ => by
    refine ⟨e, Hs, fe, P, ok, ?_⟩
    unfold fTryAs at q
    generalize Sb e = r at q ⊢
    cases r with
    | bad => exact q
    | nx e1 => exact q
    | bk e1 => exact q
    | ct e1 => exact q
    | rt d e1 => exact q
    | exc x e1 =>
      intro dd σ1 Hs1 H1 fe1 a1 ok1 ex1
      dsimp only at q
      cases hcl : isA x.c with
      | none => rw [hcl] at q; exact q.elim
      | some k =>
        rw [hcl] at q
        refine ⟨k, by rw [hk]; exact hA _ _ hcl, fun hk1 => ?_, fun hk0 => ?_⟩
        · subst hk1
          intro a ha
          dsimp only at q
          by_cases hil : i < e1.sl.length
          rotate_left
          · rw [if_neg hil] at q; exact q.elim
          rw [if_pos hil] at q
          obtain ⟨fe2, ok2⟩ := ok1.del i
          have ok3 : Ok (C.su i a (.ref (C.ca x.c)) (some dd)) Hs1 H1 (σ1.set i (some (.ref a))) (e1.suite i x) fe2 f0 P := by
            refine ⟨ok2.wf, ?_, fun p hpp => ?_, a, dd, rfl, ex1⟩
            · refine ok2.sl.any (by rw [List.length_set]) fun j d hj => ?_
              by_cases e : i = j
              · subst e
                exact absurd hj (delL_at (e := e1) (vs := [i]) List.mem_cons_self d)
              · rw [List.getElem?_set_ne e]
            · rcases List.mem_cons.mp hpp with z | z
              · rw [z, List.getElem?_set_self (by rw [ok1.sl.len]; exact hil)]
              · rw [List.getElem?_set_ne (Ne.symm (hp p z))]
                exact ok1.pn p z
          refine ⟨e1.suite i x, Hs1, fe2, P, ok3, ?_⟩
          have q2 := q.shift a1
          -- the suite's end
          have done : ∀ {σ' : L2.St} {e' : En} {Hs' H' : Hp} {fe' fx : Fp}, Ok (C.su i a (.ref (C.ca x.c)) (some dd)) Hs' H' σ' e' fe' fx P → ∃ fe2, Ok C Hs' H' (σ'.set i none) (e'.calm i) fe2 fx P := by
            intro σ' e' Hs' H' fe' fx ok'
            obtain ⟨fe3, ok4⟩ := ok'.del i
            refine ⟨fe3, ⟨ok4.wf, ?_, fun p hpp => ?_, trivial⟩⟩
            · refine ok4.sl.any (by rw [List.length_set]) fun j d hj => ?_
              by_cases e : i = j
              · subst e
                exact absurd hj (delL_at (e := e') (vs := [i]) List.mem_cons_self d)
              · rw [List.getElem?_set_ne e]
            · rw [List.getElem?_set_ne (Ne.symm (hp p hpp))]
              exact ok'.pn p (List.mem_cons_of_mem _ hpp)
          generalize Ss (e1.suite i x) = r2 at q2 ⊢
          cases r2 with
          | bad => exact q2.elim
          | exc x2 e2 => exact q2.elim
          | nx e2 =>
            intro σ' Hs' H' fe' a2 ok'
            obtain ⟨fe3, ok4⟩ := done ok'
            exact q2 _ Hs' H' fe3 a2 ok4
          | bk e2 =>
            intro σ' Hs' H' fe' a2 ok'
            obtain ⟨fe3, ok4⟩ := done ok'
            exact q2 _ Hs' H' fe3 a2 ok4
          | ct e2 =>
            intro σ' Hs' H' fe' a2 ok'
            obtain ⟨fe3, ok4⟩ := done ok'
            exact q2 _ Hs' H' fe3 a2 ok4
          | rt d2 e2 =>
            intro v σ' Hs' H' fe' fv a2 ok' rv
            obtain ⟨fe3, ok4⟩ := done ok'
            exact q2 v _ Hs' H' fe3 fv a2 ok4 rv
        · subst hk0
          exact q dd σ1 Hs1 H1 fe1 a1 ok1 ex1
end
end Bx

set_option Elab.async false
set_option linter.all false
set_option maxRecDepth 100000
set_option maxHeartbeats 1000000
/-! Slices. -/
namespace Bx
open PySem L2

def cutD (xs : List D) (lo hi : Option Int) : List D := List.take (HT.sIx xs.length xs.length hi - HT.sIx xs.length 0 lo) (List.drop (HT.sIx xs.length 0 lo) xs)
def sliceD (d : D) (lo hi : Option Int) : Option D := match d with
  | .str z => if z.length ≤ lim then some (.str (cutS z lo hi)) else none
  | d => match d.seq with
    | some (true, xs) => some (.nd .lst true (cutD xs lo hi))
    | some (false, xs) => if HT.sIx xs.length 0 lo = 0 ∧ HT.sIx xs.length xs.length hi = xs.length then none else some (.nd .tup false (cutD xs lo hi))
    | none => none
def pE (a : Option FE) : En → Rs (Option Int) := fun e => match a with
  | none => .ok none e
  | some a => (a e).bind fun x e1 => match x with
    | .int i => .ok (some i) e1
    | _ => .bad
def eSl (a : FE) (lo hi : Option FE) : FE := fun e => (a e).bind fun x e1 => (pE lo e1).bind fun l e2 => (pE hi e2).bind fun h e3 => .opt (sliceD (frz x) l h) e3
def EndP (C : Cc) (W : WX) (r : Rs (Option Int)) (Hs H : Hp) (P : Addr → Prop) (σ : L2.St) (Q : Option Int → Hp → Prop) : Prop := match r with
  | .bad => False
  | .ok b e' => ∀ Hs' H' fe', Aft Hs H Hs' H' P → Ok C Hs' H' σ e' fe' f0 P → Q b H'
  | .exc x e' => XcK C W Hs H P σ x e'
def canP (C : Cc) (W : WX) (F : En → Rs (Option Int)) : TO := fun σ H Q => ∃ e Hs fe P, Ok C Hs H σ e fe f0 P ∧ EndP C W (F e) Hs H P σ Q
def BP (X : Cx) (C : Cc) (W : WX) (o : Option Expr) (F : En → Rs (Option Int)) : Prop := PO X o (canP C W F)
theorem _root_.L2.PO.imp {X : Cx} {e : Option Expr} {t t' : TO} (h : PO X e t) (i : ∀ σ H Q, t' σ H Q → t σ H Q) : PO X e t' := ⟨fun pins s σ H Q I q => h.run pins s σ H Q I (i _ _ _ q)⟩
section
variable {X : Cx} {C : Cc} {W : WX} {pos p2 : Pos} {a b : Expr} {Fa Fb : FE} {lo hi : Option Expr} {Fl Fh : Option FE}
theorem bp_none : BP X C W none (pE none) := po_none.imp fun σ H Q ⟨e, Hs, fe, P, ok, q⟩ => q Hs H fe (Aft.refl _ _ _) ok
theorem bp_some (ha : BE X C W a Fa) : BP X C W (some a) (pE (some Fa)) := (po_some ha).imp fun σ H Q ⟨e, Hs, fe, P, ok, q⟩ => by
  have qz : EndZ C W (Fa e) Hs H P σ fun x e1 => EndP C W (match x with
    | .int i => .ok (some i) e1
    | _ => .bad) Hs H P σ Q := by
    unfold pE at q
    dsimp only at q
    cases h : Fa e with
    | bad => rw [h] at q; exact q
    | ok d e1 => rw [h] at q; exact q
    | exc x e1 => rw [h] at q; exact q
  refine firstE ok qz fun d e1 v Hs1 H1 fe1 fv1 a1 ok1 r1 q1 => ?_
  cases d with
  | int i => exact ⟨i, r1.toI, q1 Hs1 H1 fe1 a1 (ok1.less fun _ => Nat.zero_le _)⟩
  | _ => exact q1.elim
theorem bindP {R : Hp → Hp → Prop} {b : En → Rs (Option Int)} {Hs H : Hp} {σ : L2.St} {e : En} {fe fv : Fp} {P : Addr → Prop} {Z : Option Int → En → Prop} {T : Option Int → Hp → Prop} (ok : Ok C Hs H σ e fe fv P) (hR : Held R fv Hs H) (h : EndZ C W (b e) Hs H P σ Z)
    (hk : ∀ d2 e2 Hs2 H2 fe2, Aft Hs H Hs2 H2 (fun b => P b ∨ fv b ≠ 0) → Ok C Hs2 H2 σ e2 fe2 fv P → R Hs2 H2 → Z d2 e2 → T d2 H2) : canP C W b σ H T := by
  refine ⟨e, Hs, fe, _, ok.holdR hR, ?_⟩
  unfold EndZ at h
  unfold EndP
  generalize b e = re at h ⊢
  cases re with
  | bad => exact h
  | exc x e' => exact XcK.unhold h fun b hb => .inl hb
  | ok d e' =>
    intro Hs2 H2 fe2 a ok2
    exact hk d e' Hs2 H2 fe2 a ((ok2.back (fun b => by have := ok.wf.one b; omega) (fun b hb => by have := ok.wf.apart b hb; omega) (fun b hb => ok.wf.own b (by omega)) a).fps (fun _ => rfl) fun b => rfl) (hR.on ok a) h
def rSlA (K : PySem.W.Frag) : V → Option Int → Option Int → Hp → VK → Prop := fun x lo hi H Q => rSlL K x lo hi H Q ∨ (rSlS x lo hi H Q ∨ rSlT K x lo hi H Q)
theorem sl_A : SlR X (rSlA X.K) := fun pins s σ H x v vl vu lo hi sl Q I rx h1 h2 h3 h => by
  rcases h with h | h | h
  · exact sl_list pins s σ H x v vl vu lo hi sl Q I rx h1 h2 h3 h
  · exact sl_str pins s σ H x v vl vu lo hi sl Q I rx h1 h2 h3 h
  · exact sl_tup pins s σ H x v vl vu lo hi sl Q I rx h1 h2 h3 h
theorem rps_cut {G : Gc} {Hs H : Hp} : ∀ {vs : List V} {ds : List D} (n : Nat), Rps G Hs H vs ds f0 → Rps G Hs H (vs.take n) (ds.take n) f0 ∧ Rps G Hs H (vs.drop n) (ds.drop n) f0
  | _, _, 0, r => ⟨.nil fun _ => rfl, r⟩
  | _, _, n + 1, .nil _ => ⟨.nil fun _ => rfl, .nil fun _ => rfl⟩
  | _, _, n + 1, .cons (f := f1) (g := g1) r rs e => by
    have hf : ∀ b, f0 b = f1 b := fun b => by have := e b; simp only [f0] at *; omega
    have hg : ∀ b, f0 b = g1 b := fun b => by have := e b; simp only [f0] at *; omega
    obtain ⟨h1, h2⟩ := rps_cut n (rs.fp hg)
    exact ⟨.cons (r.fp hf) h1 fun b => rfl, h2⟩
theorem sliceS {G : Gc} {Hs H : Hp} {v : V} {d z : D} {lo hi : Option Int} {Q : VK} (s : Sm Hs H) (r : Rp G Hs H v d f0) (hz : sliceD d lo hi = some z) (q : ∀ v Hs' H' fv, New Hs H Hs' H' fv → Rp G Hs' H' v z fv → Q v H') : rSlA G.K v lo hi H Q := by
  unfold sliceD at hz
  split at hz
  · split at hz
    · rename_i h
      cases hz
      rw [r.toS]
      exact .inr (.inl ⟨_, rfl, lim_le h, res0 s q (r_str _)⟩)
    · cases hz
  · split at hz
    · rename_i xs hs
      cases hz
      obtain ⟨a, vs, g, rfl, h1, _, rs, le⟩ := r.seq s hs
      have rz := rs.z le
      refine .inl ⟨a, vs, rfl, h1 rfl, fun p hp => ?_⟩
      have e : cutV vs lo hi = List.take (HT.sIx xs.length xs.length hi - HT.sIx xs.length 0 lo) (List.drop (HT.sIx xs.length 0 lo) vs) := by unfold cutV; rw [rs.len]
      rw [e]
      exact resLst s q (rps_cut _ (rps_cut _ rz).2).1 hp
    · rename_i xs hs
      split at hz
      · cases hz
      · rename_i hn
        cases hz
        obtain ⟨a, vs, g, rfl, _, h1, rs, le⟩ := r.seq s hs
        have rz := rs.z le
        refine .inr (.inr ⟨a, vs, rfl, h1 rfl, by rw [rs.len]; exact hn, fun p hp => ?_⟩)
        have e : cutV vs lo hi = List.take (HT.sIx xs.length xs.length hi - HT.sIx xs.length 0 lo) (List.drop (HT.sIx xs.length 0 lo) vs) := by unfold cutV; rw [rs.len]
        rw [e]
        exact resTup s q (rps_cut _ (rps_cut _ rz).2).1 hp
    · cases hz
theorem be_sl (hk : X.K = C.K) (ha : BE X C W a Fa) (hl : BP X C W lo (pE Fl)) (hh : BP X C W hi (pE Fh)) : BE X C W (.Subscript a (.Slice lo hi none p2) pos) (eSl Fa Fl Fh) :=
  (pe_slice sl_A ha hl hh).imp fun σ H Q ⟨e, Hs, fe, P, ok, q⟩ => by
    refine firstE ok q.bind fun d1 e1 v1 Hs1 H1 fe1 fv1 a1 ok1 r1 q1 => ?_
    obtain ⟨Hs2, a2, ok2, r2, _⟩ := (ok1.fps (fun _ => rfl) (fx' := fun b => fv1 b + f0 b) fun _ => rfl).freeze r1
    have q2 := q1.shift (a1.trans a2)
    refine bindP ok2 (.rp r2) q2.bind fun l e3 Hs3 H3 fe3 a3 ok3 r3 q3 => ?_
    have q3' := q3.shift (a3.weak fun b hb => .inl hb)
    refine bindP ok3 (.rp r3) q3'.bind fun u e4 Hs4 H4 fe4 a4 ok4 r4 q4 => ?_
    have q5 := q4.shift (a4.weak fun b hb => .inl hb)
    cases hz : sliceD (frz d1) l u with
    | none => rw [hz] at q5; exact q5.elim
    | some z =>
      rw [hz] at q5
      show rSlA X.K _ _ _ _ _
      rw [hk]
      exact sliceS (G := C.toGc) ok4.sm r4 hz fun v Hs6 H6 fv n rz => q5 v Hs6 H6 fe4 fv (n.aft ok4) ((ok4.new n fun _ h => absurd rfl h).fps (fun _ => rfl) fun _ => (Nat.zero_add _).symm) rz
end
end Bx

set_option Elab.async false
set_option linter.all false
set_option maxRecDepth 100000
set_option maxHeartbeats 1000000
/-! Odds and ends. -/
namespace Bx
open PySem L2
def addID : D → D → Option D
  | .int i, .int j => some (.int (i + j))
  | _, _ => none
theorem addIS {G : Gc} : OpS G (rI0 fun i j => .int (i + j)) addID := by
  intro Hs H v1 v2 d1 d2 z Q s r1 r2 hz q
  unfold addID at hz
  split at hz
  · cases hz
    rw [r1.toI, r2.toI]
    exact ⟨_, _, rfl, rfl, res0 s q (r_int _)⟩
  · cases hz
/-- truth of any value -/
def truD : D → Option Bool
  | .non => some false
  | .bl k => some k
  | .int i => some (i != 0)
  | .str x => if x.length ≤ lim then some ((x.length : Int) != 0) else none
  | .nd k _ xs => match k with
    | .lst => some (!xs.isEmpty) | .tup => some (!xs.isEmpty) | .wl => some (!xs.isEmpty) | .wt => some (!xs.isEmpty) | _ => none
  | _ => none
def tTru (a : FE) : FT := fun e => (a e).bind fun d e1 => .opt (truD d) e1
theorem Rps.empty {G : Gc} {Hs H : Hp} {vs : List V} {xs : List D} {f : Fp} (r : Rps G Hs H vs xs f) : vs.isEmpty = xs.isEmpty := by cases r <;> rfl
theorem truS {G : Gc} {Hs H : Hp} {v : V} {d : D} {f : Fp} {k : Bool} (s : Sm Hs H) (r : Rp G Hs H v d f) (h : truD d = some k) : TruV G.K v H k := by
  cases d with
  | non => cases h; rw [r.toN]; rfl
  | bl _ => cases h; rw [r.toB]; rfl
  | int _ => cases h; rw [r.toI]; rfl
  | str x =>
    have h' : (if x.length ≤ lim then some ((x.length : Int) != 0) else none) = some k := h
    split at h'
    · rename_i hl; cases h'; rw [r.toS]; exact ⟨lim_le hl, rfl⟩
    · cases h'
  | ty _ => cases h
  | nd kd o xs =>
    cases kd with
    | lst => cases h; obtain ⟨a, vs, g, rfl, h1, _, rs, _⟩ := r.seq s (b := true) (xs := xs) rfl; exact .inl ⟨vs, h1 rfl, by rw [rs.empty]⟩
    | wl => cases h; obtain ⟨a, vs, g, rfl, h1, _, rs, _⟩ := r.seq s (b := true) (xs := xs) rfl; exact .inl ⟨vs, h1 rfl, by rw [rs.empty]⟩
    | tup => cases h; obtain ⟨a, vs, g, rfl, _, h1, rs, _⟩ := r.seq s (b := false) (xs := xs) rfl; exact .inr (.inl ⟨vs, h1 rfl, by rw [rs.empty]⟩)
    | wt => cases h; obtain ⟨a, vs, g, rfl, _, h1, rs, _⟩ := r.seq s (b := false) (xs := xs) rfl; exact .inr (.inl ⟨vs, h1 rfl, by rw [rs.empty]⟩)
    | _ => cases h
theorem bt_tru {X : Cx} {C : Cc} {W : WX} {a : Expr} {Fa : FE} (hk : X.K = C.K) (h : BE X C W a Fa) (he : ∀ whole, isTrue a X.env whole = (do let v ← whole; standAt a.pos; holding [v] (truthy v))) : BT X C W a (tTru Fa) :=
  (pt_truth h he).imp fun σ H Q ⟨e, Hs, fe, P, ok, q⟩ => by
    refine firstE ok q.bind fun d e1 v Hs1 H1 fe1 fv1 a1 ok1 r1 q1 => ?_
    cases ht : truD d with
    | none => rw [ht] at q1; exact q1.elim
    | some k =>
      rw [ht] at q1
      exact ⟨k, by rw [hk]; exact truS (G := C.toGc) ok1.sm r1 ht, q1 Hs1 H1 fe1 a1 (ok1.less fun _ => Nat.zero_le _)⟩
/-- nothing is claimed of a call without fuel -/
theorem def_bad {P : Program} {w : World} {K : PySem.W.Frag} {mg : Str → Option Value} {base : Heap} {CX : CXT} {k n : Nat} {f : Addr} {fd : FuncData} {ps : List Str} {G : Gc} : FnOk P w K mg base CX k f fd ps (spD G n fun _ => .bad) :=
  ⟨fun vs H Q E h => by obtain ⟨_, _, _, _, _, _, _, q⟩ := h; exact q.elim, fun A outer s H args us vs Q E _ _ _ _ h => by obtain ⟨_, _, _, _, _, _, _, q⟩ := h; exact q.elim⟩
section
variable {X : Cx} {pos p apos : Pos} {a b e o : Expr} {es : List Expr} {x : Str} {id T : String} {r : List V → Hp → VK → Prop}
theorem be_ty {C : Cc} {W : WX} (hg : Gl X x) (hm : X.mg x = none) (hv : bootBuiltins x = some (.type T)) (hn : x ≠ "__name__") (hd : (x == ("__debug__" : Str)) = false) : BE X C W (.Name x p) (eC (.ty T)) := be_c (pe_bltn (v := .ty T) hg hm hv rfl hn hd) fun _ _ => .ty fun _ => rfl
/-! the layer's rules without automatic premises -/
theorem pcB (hc : CallR X (.builtin id) r) (hg : Gl X x) (hm : X.mg x = none) (hv : bootBuiltins x = some (.builtin id)) (hn : x ≠ "__name__") (hd : (x == ("__debug__" : Str)) = false) (hs : starEach (e :: es) X.env = (false, eval e X.env) :: starEach es X.env) (hp : (backTo pos (starEach es X.env)).any (·.1) = false) :
    ∀ t, PA X (e :: es) t → PE X (.Call (.Name x p) (e :: es) [] pos) (tCB r t) := fun _ ha => pe_callB hc hg hm hv ha hn hd hs hp
theorem pcT (hc : CallR X (.type T) r) (hg : Gl X x) (hm : X.mg x = none) (hv : bootBuiltins x = some (.type T)) (hn : x ≠ "__name__") (hd : (x == ("__debug__" : Str)) = false) (hs : starEach (e :: es) X.env = (false, eval e X.env) :: starEach es X.env) (hp : (backTo pos (starEach es X.env)).any (·.1) = false) :
    ∀ t, PA X (e :: es) t → PE X (.Call (.Name x p) (e :: es) [] pos) (tCB r t) := fun _ ha => pe_callTy hc hg hm hv ha hn hd hs hp
theorem pcApp {i : Nat} (ho : PE X o (tVar i)) (h1 : attributeBase o "append" X.env (eval o X.env) = eval o X.env) (h2 : ((backTo pos (starEach [e] X.env)).all (!·.1) && (backToKw pos (keywordEach [] X.env)).all (·.1.isSome) && decide (([e].length + ([] : List Keyword).length + if ([] : List Keyword).isEmpty then 0 else 1) < 30)) = true) (h3 : (apos.endLine == pos.line) = true)
    (h4 : starEach [e] X.env = (false, eval e X.env) :: starEach [] X.env) (h5 : (backTo pos (starEach [] X.env)).any (·.1) = false) : ∀ t, PA X [e] t → PE X (.Call (.Attribute o "append" apos) [e] [] pos) (tBM X.K "list" rAppend (tVar i) t) :=
  fun _ ha => pe_bm PySem.F.plainAttrs_list PySem.F.slot_list_append PySem.F.type_list_append mt_append ho ha h1 h2 h3 h4 h5
theorem psTup {tg : Expr} (h1 : swapsWithSole [tg] e pos.line X.env = pure false) (h2 : swappedStores [tg] e X.env = pure none) (h3 : (assignEach [tg] X.env).map (·.2) = [assign tg X.env]) : ∀ te gg, PE X e te → PG X tg gg → PS X (.Assign [tg] e pos) (tAsg te gg) := fun _ _ ha hg => ps_asg ha hg h1 h2 h3
theorem psSub {i : Nat} (hu : X.A.units + 1 < cLine) (ho : PE X o (tVar i)) (h0 : ∀ v, assign (.Subscript o b p) X.env v = (do
      let ov ← holding [v] (eval o X.env)
      let iv ← holding [v, ov] (eval b X.env)
      standAt p
      holding [v, ov, iv] (setItem ov iv v)
      release [v, ov, iv] [])) (h1 : swapsWithSole [.Subscript o b p] e pos.line X.env = pure false) (h2 : swappedStores [.Subscript o b p] e X.env = pure none) (h3 : (assignEach [.Subscript o b p] X.env).map (·.2) = [assign (.Subscript o b p) X.env]) :
    ∀ te ti, PE X e te → PE X b ti → PS X (.Assign [.Subscript o b p] e pos) (tAsg te (gSub (tVar i) ti rSetA)) := fun _ _ ha hb => ps_asg ha (pg_sub ho hb (set_A hu) h0) h1 h2 h3
end
end Bx

set_option Elab.async false
set_option linter.all false
set_option maxRecDepth 100000
/-! The end of a proof. -/
namespace Bx
open PySem L2 PyProof.Rows
def spLaw (K : PySem.W.Frag) : Sp := fun vs H Q _ => ∃ (a : Addr) (ns : List Int), vs = [.ref a] ∧ SqL K H a (ns.map V.int) ∧ ns.length ≤ 63 ∧ (∀ z ∈ ns, Builtin.Int.intBits z ≤ 1048576) ∧ ∀ H', Q (.bl true) H'
/-- what the plain law has to show -/
def Keeps (F : List D → CR) : Prop := ∀ ns : List Int, ns.length ≤ 63 → (∀ z ∈ ns, Builtin.Int.intBits z ≤ 1048576) → ∃ os, F [.nd .wl false (ns.map D.int)] = .ok (.bl true) os
theorem law_fn {P : Program} {w : World} {K : PySem.W.Frag} {mg : Str → Option Value} {base : Heap} {CX : CXT} {k : Nat} {f : Addr} {fd : FuncData} {ps : List Str} {ca : Str → Addr} {F : List D → CR} (hF : Keeps F) (G : FnOk P w K mg base CX k f fd ps (spD ⟨K, ca⟩ 1 F)) :
    FnOk P w K mg base CX k f fd ps (spLaw K) := G.imp fun vs H Q E h => by
  obtain ⟨a, ns, rfl, hS, hl, hb, q⟩ := h
  obtain ⟨os, e⟩ := hF ns hl hb
  have ri : ∀ ns : List Int, Rps ⟨K, ca⟩ H H (ns.map V.int) (ns.map D.int) f0 := fun ns => by
    induction ns with
    | nil => exact .nil fun _ => rfl
    | cons n ns ih => exact .cons (r_int n) ih fun _ => rfl
  refine ⟨rfl, [.nd .wl false (ns.map D.int)], H, f0, fun _ => False, ⟨fun a o h => .inl h, fun b => Nat.zero_le _, fun b hb => absurd rfl hb, fun b hb => hb.elim, fun b hb => hb.elim⟩, .cons (.sh hS (ri ns) fun _ => rfl) (.nil (f := f0) fun _ => rfl) fun _ => rfl, ?_⟩
  rw [e]
  exact fun v Hs' H' fv fo _ _ rv _ => by rw [rv.toB]; exact q _
theorem walk {l : PySem.W.OpenLaw} {k : Nat} {q : Program} {loose : List Str} {XP : (Str → Option Value) → Heap → Prop} {YP : World → Heap → Prop} {d : DefRec} {K : Params → PySem.W.Frag} (hn : l.most = some 63) (hdf : d.params.defaults = []) (hr : Room k callerA)
    (hY : ∀ (w : World) (h : Heap), YP w h → (K w.params).In h)
    (F : ∀ (w : World) (mg : Str → Option Value) (fa : Addr) (h : Heap), (K w.params).In h → h.Ns mainGlobals mg → mg d.name = some (.ref fa) →
      ∃ fd : FuncData, (∀ (s : Shared) (u : Value), BindsTo s fd ⟨[u], []⟩ [("script", u)]) ∧ ∀ base : Heap, (K w.params).In base → base.Ns mainGlobals mg → FnOk l.prog w (K w.params) mg base (L2.CX l.prog w) k fa fd ["script"] (spLaw (K w.params))) :
    PySem.W.WalkO q loose XP YP l.row.toRowW d [] (fun f vs => PySem.call f vs) :=
  L2.walk_ofB (n := 63) (k := k) (x := "script") (CX := fun w => L2.CX l.prog w) (sp := fun w => spLaw (K w.params)) hn (by decide) hdf hr hY F (fun _ _ a ns hl hb _ hS => ⟨a, ns, rfl, hS, hl, hb, fun _ => rfl⟩)
    fun _ _ _ _ _ z => by obtain ⟨_, _, _, _, _, _, _, _, _, _, _, _, z⟩ := z; exact z
/-- an error of the class at S is what «except S» names -/
theorem exm_of {K : PySem.W.Frag} {C S : Addr} {b : Bool} (h1 : PySem.W.subIn K (.ref S) (.type "BaseException") = some true) (h2 : PySem.W.isClsIn K S = true) (h3 : PySem.W.typeIn K (.ref S) = some (.type "type")) (h4 : PySem.W.subIn K (.ref C) (.ref S) = some b) :
    PySem.W.exmOne K (.ref C) (.ref S) = some b := by
  have e1 : (PySem.W.subIn K (.ref S) (.type "BaseException") == some true) = true := by rw [h1] <;> rfl
  have e2 : ((PySem.W.clsIn K S).isSome && PySem.W.typeIn K (.ref S) == some (.type "type")) = true := by
    have h2' : (PySem.W.clsIn K S).isSome = true := h2
    rw [h2', h3] <;> rfl
  show (if (PySem.W.subIn K (.ref S) (.type "BaseException") == some true) = true then (if ((PySem.W.clsIn K S).isSome && PySem.W.typeIn K (.ref S) == some (.type "type")) = true then PySem.W.subIn K (.ref C) (.ref S) else none) else none) = some b
  rw [if_pos e1, if_pos e2]
  exact h4
end Bx

set_option Elab.async false
set_option linter.all false
set_option maxRecDepth 100000
/-! Evaluation of the plain functions. -/
namespace Bx
open PySem L2
@[simp] theorem rngA1_ok {j : Int} (h1 : -4611686018427387904 < j) (h2 : j < 4611686018427387904) : rngA1 [.int j] = some (rngD 0 j.toNat) := if_pos (by omega)
@[simp] theorem rngA2_ok {i j : Int} (h1 : -4611686018427387904 < i) (h2 : i < 4611686018427387904) (h3 : -4611686018427387904 < j) (h4 : j < 4611686018427387904) : rngA2 [.int i, .int j] = some (rngD i (j - i).toNat) := if_pos ⟨by omega, by omega⟩
section
variable {α β : Type} {e e1 : En} {x : Exc}
@[simp] theorem Rs.bind_ok {a : α} {k : α → En → Rs β} : (Rs.ok a e).bind k = k a e := (rfl)
@[simp] theorem Rs.bind_exc {k : α → En → Rs β} : (Rs.exc x e).bind k = .exc x e := (rfl)
@[simp] theorem Rs.toS_ok {a : α} {k : α → En → So} : (Rs.ok a e).toS k = k a e := (rfl)
@[simp] theorem Rs.toS_exc {k : α → En → So} : (Rs.exc x e).toS k = .exc x e := (rfl)
@[simp] theorem Rs.opt_some {a : α} : Rs.opt (some a) e = .ok a e := (rfl)
@[simp] theorem Rs.nox_ok {a : α} : (Rs.ok a e).nox = .ok a e := (rfl)
@[simp] theorem So.opt_some : So.opt (some e) = .nx e := (rfl)
@[simp] theorem En.put_mk {sl : List (Option D)} {o : Option Exc} {i : Nat} {d : D} : En.put ⟨sl, o⟩ i d = ⟨sl.set i (some d), o⟩ := (rfl)
@[simp] theorem En.del_mk {sl : List (Option D)} {o : Option Exc} {i : Nat} : En.del ⟨sl, o⟩ i = ⟨sl.set i none, o⟩ := (rfl)
end
@[simp] theorem frz_int {i : Int} : frz (.int i) = .int i := (rfl)
@[simp] theorem frz_bl {i : Bool} : frz (.bl i) = .bl i := (rfl)
@[simp] theorem frz_str {i : Str} : frz (.str i) = .str i := (rfl)
@[simp] theorem frz_ty {i : String} : frz (.ty i) = .ty i := (rfl)
@[simp] theorem frz_non : frz .non = .non := (rfl)
@[simp] theorem frz_nd {k : Kd} {o : Bool} {xs : List D} : frz (.nd k o xs) = .nd k false (frzs xs) := by unfold frz; rfl
@[simp] theorem frzs_nil : frzs [] = [] := (rfl)
@[simp] theorem frzs_cons {x : D} {xs : List D} : frzs (x :: xs) = frz x :: frzs xs := (rfl)
@[simp] theorem frzs_ints : ∀ {ns : List Int}, frzs (ns.map D.int) = ns.map D.int
  | [] => rfl
  | n :: ns => by rw [List.map_cons, frzs_cons, frzs_ints]; rfl
mutual
theorem frz_frz : ∀ d : D, frz (frz d) = frz d
  | .non => rfl | .bl _ => rfl | .int _ => rfl | .str _ => rfl | .ty _ => rfl
  | .nd k o xs => by rw [frz_nd, frz_nd, frzs_frzs xs]
theorem frzs_frzs : ∀ d : List D, frzs (frzs d) = frzs d
  | [] => rfl
  | x :: xs => by rw [frzs_cons, frzs_cons, frz_frz x, frzs_frzs xs]
end
@[simp] theorem frz_id {d : D} : frz (frz d) = frz d := frz_frz d
@[simp] theorem frzs_id {d : List D} : frzs (frzs d) = frzs d := frzs_frzs d
@[simp] theorem frzs_length {d : List D} : (frzs d).length = d.length := frzs_len d
section
variable {e : En} {sl : List (Option D)} {ex : Option Exc}
@[simp] theorem eC_ap {d : D} : eC d e = .ok d e := (rfl)
@[simp] theorem eN_ap {i : Nat} : eN i ⟨sl, ex⟩ = match sl[i]? with
  | some (some d) => .ok (frz d) ⟨sl.set i (some (frz d)), ex⟩
  | _ => .bad := (rfl)
@[simp] theorem eBin_ap {g : D → D → Option D} {a b : FE} : eBin g a b e = (a e).bind fun x e1 => (b e1).bind fun y e2 => .opt (g (frz x) (frz y)) e2 := (rfl)
@[simp] theorem eUn_ap {g : D → Option D} {a : FE} : eUn g a e = (a e).bind fun x e1 => .opt (g (frz x)) e1 := (rfl)
@[simp] theorem tTst_ap {a : FE} : tTst a e = (a e).bind fun x e1 => match x with
  | .bl b => .ok b e1
  | _ => .bad := (rfl)
@[simp] theorem tNt_ap {a : FT} : tNt a e = (a e).bind fun b e1 => .ok (!b) e1 := (rfl)
@[simp] theorem tAnd_ap {a b : FT} : tAnd a b e = (a e).bind fun k e1 => if k then b e1 else .ok false e1 := (rfl)
@[simp] theorem tOr_ap {a b : FT} : tOr a b e = (a e).bind fun k e1 => if k then .ok true e1 else b e1 := (rfl)
@[simp] theorem eAnd_ap {a b : FE} : eAnd a b e = (a e).bind fun x e1 => match x with
  | .bl k => if k then b e1 else .ok (.bl false) e1
  | _ => .bad := (rfl)
@[simp] theorem eOr_ap {a b : FE} : eOr a b e = (a e).bind fun x e1 => match x with
  | .bl k => if k then .ok (.bl true) e1 else b e1
  | _ => .bad := (rfl)
@[simp] theorem eNot_ap {a : FE} : eNot a e = (a e).bind fun x e1 => match x with
  | .bl k => .ok (.bl (!k)) e1
  | _ => .bad := (rfl)
@[simp] theorem eIf_ap {c : FT} {a b : FE} : eIf c a b e = (c e).bind fun k e1 => if k then a e1 else b e1 := (rfl)
@[simp] theorem aNil_ap : aNil e = .ok [] e := (rfl)
@[simp] theorem aCons_ap {a : FE} {r : FA} : aCons a r e = (a e).bind fun x e1 => (r e1).bind fun xs e2 => .ok (.d x :: xs) e2 := (rfl)
@[simp] theorem aIo_ap {i : Nat} {r : FA} : aIo i r ⟨sl, ex⟩ = match sl[i]? with
  | some (some _) => (r ⟨sl, ex⟩).bind fun xs e2 => .ok (.io i :: xs) e2
  | _ => .bad := (rfl)
@[simp] theorem av_d {x : D} : av e (.d x) = some x := (rfl)
@[simp] theorem av_io {i : Nat} : av ⟨sl, ex⟩ (.io i) = (sl[i]?).getD none := (rfl)
@[simp] theorem avs_nil : avs e [] = some [] := (rfl)
@[simp] theorem avs_cons {a : AV} {as : List AV} : avs e (a :: as) = match av e a, avs e as with
  | some d, some ds => some (d :: ds)
  | _, _ => none := (rfl)
@[simp] theorem dvs_nil : dvs [] = some [] := (rfl)
@[simp] theorem dvs_cons {x : D} {as : List AV} : dvs (.d x :: as) = match dvs as with
  | some ds => some (x :: ds)
  | none => none := (rfl)
@[simp] theorem eCallB_ap {g : List D → Option D} {as : FA} : eCallB g as e = (as e).bind fun as e1 => .opt ((avs e1 as).bind g) e1 := (rfl)
@[simp] theorem eCallF_ap {g : List D → Option D} {as : FA} : eCallF g as e = (as e).bind fun as e1 => .opt ((dvs as).bind fun ds => g (frzs ds)) e1 := (rfl)
@[simp] theorem eTup_ap {as : FA} : eTup as e = (as e).bind fun as e1 => .opt ((dvs as).bind fun ds => if (frzs ds).length ≤ lim then some (.nd .tup false (frzs ds)) else none) e1 := (rfl)
@[simp] theorem eLst_ap {as : FA} : eLst as e = (as e).bind fun as e1 => .opt ((dvs as).bind fun ds => if ds.length ≤ lim then some (.nd .lst true ds) else none) e1 := (rfl)
@[simp] theorem gN_ap {i : Nat} {d : D} : gN i d ⟨sl, ex⟩ = if i < sl.length then some ⟨sl.set i (some d), ex⟩ else none := (rfl)
@[simp] theorem fNext_ap : fNext e = .nx e := (rfl)
@[simp] theorem fAsg_ap {g : FG} {a : FE} : fAsg g a e = (a e).toS fun d e1 => match g d e1 with
  | some e2 => .nx e2
  | none => .bad := (rfl)
@[simp] theorem fIf_ap {c : FT} {t u : FS} : fIf c t u e = (c e).toS fun k e1 => if k then t e1 else u e1 := (rfl)
@[simp] theorem fRet_ap {a : FE} : fRet a e = (a e).toS fun d e1 => .rt d e1 := (rfl)
@[simp] theorem fRetN_ap : fRetN e = .rt .non e := (rfl)
@[simp] theorem fRetV_ap {i : Nat} : fRetV i ⟨sl, ex⟩ = match sl[i]? with
  | some (some d) => .rt d ⟨sl.set i none, ex⟩
  | _ => .bad := (rfl)
@[simp] theorem fExpr_ap {a : FE} : fExpr a e = (a e).toS fun _ e1 => .nx e1 := (rfl)
@[simp] theorem fBreak_ap : fBreak e = .bk e := (rfl)
@[simp] theorem fCont_ap : fCont e = .ct e := (rfl)
@[simp] theorem fFor_ap {it : FI} {g : FG} {body : FS} : fFor it g body e = (it e).toS fun xs e1 => forL g body xs e1 := (rfl)
@[simp] theorem iE_ap {a : FE} : iE a e = (a e).bind fun d e1 => .opt (itsD (frz d)) e1 := (rfl)
@[simp] theorem iRng1_ap {as : FA} : iRng1 as e = (as e).bind fun as e1 => .opt ((dvs as).bind rngA1) e1 := (rfl)
@[simp] theorem iRng2_ap {as : FA} : iRng2 as e = (as e).bind fun as e1 => .opt ((dvs as).bind rngA2) e1 := (rfl)
@[simp] theorem eLc_ap {vs : List Nat} {it : FI} {g : FG} {tt : FT} {el : FE} : eLc vs it g tt el e = (it e).bind fun xs e1 => (lcL vs g tt el xs [] (delL e1 vs)).bind fun acc e2 => .ok (.nd .lst true acc) e2 := (rfl)
@[simp] theorem tYesF_ap : tYesF e = .ok true e := (rfl)
@[simp] theorem delL_nil : delL e [] = e := (rfl)
@[simp] theorem delL_cons {v : Nat} {vs : List Nat} : delL e (v :: vs) = (delL e vs).del v := (rfl)
@[simp] theorem eIxN_ap {i : Nat} {b : FE} : eIxN i b ⟨sl, ex⟩ = match sl[i]? with
  | some (some _) => (b ⟨sl, ex⟩).bind fun y e1 => match e1.sl[i]? with
    | some (some d) => .opt ((refD d (frz y)).map (·.1)) (match refD d (frz y) with | some (_, d') => { e1 with sl := e1.sl.set i (some d') } | none => e1)
    | _ => .bad
  | _ => .bad := (rfl)
@[simp] theorem En.own_ap {i : Nat} : En.own ⟨sl, ex⟩ i = match sl[i]? with
  | some (some (.nd k true xs)) => some (k, xs)
  | _ => none := (rfl)
@[simp] theorem En.ownL_ap {i : Nat} : En.ownL ⟨sl, ex⟩ i = match sl[i]? with
  | some (some (.nd .lst true xs)) => some xs
  | _ => none := (rfl)
@[simp] theorem fSetN_ap {i : Nat} {b a : FE} : fSetN i b a e = (a e).toS fun d e1 => if (e1.own i).isSome then (b e1).toS fun y e2 => .opt ((e2.own i).bind fun (k, xs) => (setD k xs (frz y) d).map fun d' => e2.put i d') else .bad := (rfl)
@[simp] theorem eAppN_ap {i : Nat} {a : FE} : eAppN i a e = if (e.ownL i).isSome then (a e).bind fun d e1 => (match e1.ownL i with
  | some xs => if xs.length < lim then .ok .non (e1.put i (.nd .lst true (xs ++ [d]))) else .bad
  | none => .bad) else .bad := (rfl)
@[simp] theorem fAug_ap {i : Nat} {g : D → D → Option D} {a : FE} : fAug i g a ⟨sl, ex⟩ = match sl[i]? with
  | some (some d) => if d.sc then (a ⟨sl, ex⟩).toS fun y e1 => .opt ((g d (frz y)).map fun z => e1.put i z) else .bad
  | _ => .bad := (rfl)
@[simp] theorem fAugN_ap {i : Nat} {g : D → D → Option D} {b a : FE} : fAugN i g b a e = if (e.own i).isSome then (b e).toS fun y e1 => (match e1.own i with
  | some (.lst, xs) => (match cpos (.nd .lst true xs) (frz y) with
    | some j => (match xs[j]? with
      | some d => if d.sc then (a e1).toS fun w e2 => .opt ((g d (frz w)).bind fun z => (e2.ownL i).bind fun xs => (setD .lst xs (frz y) z).map fun d' => e2.put i d') else .bad
      | none => .bad)
    | none => .bad)
  | _ => .bad) else .bad := (rfl)
@[simp] theorem takeA_nil : takeA e [] = some ([], e) := (rfl)
@[simp] theorem takeA_d {x : D} {as : List AV} : takeA e (.d x :: as) = (takeA e as).map fun (ds, e2) => (x :: ds, e2) := (rfl)
@[simp] theorem takeA_io {i : Nat} {as : List AV} : takeA ⟨sl, ex⟩ (.io i :: as) = match sl[i]? with
  | some (some d) => (takeA ⟨sl.set i none, ex⟩ as).map fun (ds, e2) => (d :: ds, e2)
  | _ => none := (rfl)
@[simp] theorem putA_nil {os : List (Option D)} : putA [] os e = some e := by cases os <;> rfl
@[simp] theorem putA_d {x : D} {as : List AV} {o : Option D} {os : List (Option D)} : putA (.d x :: as) (o :: os) e = putA as os e := by cases o <;> rfl
@[simp] theorem putA_io {i : Nat} {d : D} {as : List AV} {os : List (Option D)} : putA (.io i :: as) (some d :: os) ⟨sl, ex⟩ = match sl[i]? with
  | some none => putA as os ⟨sl.set i (some d), ex⟩
  | _ => none := (rfl)
@[simp] theorem eCall_ap {n : Nat} {F : List D → CR} {as : FA} : eCall n F as e = (as e).bind fun as e1 => match takeA e1 as with
  | some (ds, e2) => if ds.length = n then (match F ds with
    | .ok d os => (match putA as os e2 with
      | some e3 => .ok d e3
      | none => .bad)
    | .exc x os => (match putA as os e2 with
      | some e3 => .exc x e3
      | none => .bad)
    | .bad => .bad) else .bad
  | none => .bad := (rfl)
end
@[simp] theorem subD_int {i j : Int} : subD (.int i) (.int j) = some (.int (i - j)) := (rfl)
@[simp] theorem ltD_int {i j : Int} : ltD (.int i) (.int j) = some (.bl (decide (i < j))) := (rfl)
@[simp] theorem leD_int {i j : Int} : leD (.int i) (.int j) = some (.bl (decide (i ≤ j))) := (rfl)
@[simp] theorem gtD_int {i j : Int} : gtD (.int i) (.int j) = some (.bl (decide (j < i))) := (rfl)
@[simp] theorem geD_int {i j : Int} : geD (.int i) (.int j) = some (.bl (decide (j ≤ i))) := (rfl)
@[simp] theorem addD_int {i j : Int} : addD (.int i) (.int j) = some (.int (i + j)) := (rfl)
@[simp] theorem mulD_int {i j : Int} : mulD (.int i) (.int j) = if mulOk i j then some (.int (i * j)) else none := (rfl)
@[simp] theorem divD_int {i j : Int} : divD (.int i) (.int j) = if decide (0 < j) && decide (j.natAbs.log2 < 9000) then some (.int (i / j)) else none := (rfl)
@[simp] theorem modD_int {i j : Int} : modD (.int i) (.int j) = if decide (0 < j) then some (.int (i % j)) else none := (rfl)
@[simp] theorem powD_int {i j : Int} : powD (.int i) (.int j) = if decide (0 ≤ j) && decide (j ≤ 1000000) && decide (i.natAbs < 2 ^ 64) then some (.int (i ^ j.toNat)) else none := (rfl)
@[simp] theorem addID_int {i j : Int} : addID (.int i) (.int j) = some (.int (i + j)) := (rfl)
@[simp] theorem negD_int {i : Int} : negD (.int i) = some (.int (-i)) := (rfl)
@[simp] theorem intD_int {i : Int} : intD [.int i] = some (.int i) := (rfl)
@[simp] theorem absD_int {i : Int} : absD [.int i] = some (.int (if i < 0 then -i else i)) := (rfl)
@[simp] theorem maxD_int {i j : Int} : maxD [.int i, .int j] = some (.int (if j > i then j else i)) := (rfl)
@[simp] theorem minD_int {i j : Int} : minD [.int i, .int j] = some (.int (if j < i then j else i)) := (rfl)
@[simp] theorem maxD_lst {o : Bool} {ns : List Int} : maxD [.nd .lst o (ns.map D.int)] = if ns ≠ [] then some (.int (maxI ns)) else none := by simp [maxD, D.seq]
@[simp] theorem minD_lst {o : Bool} {ns : List Int} : minD [.nd .lst o (ns.map D.int)] = if ns ≠ [] then some (.int (minI ns)) else none := by simp [minD, D.seq]
@[simp] theorem sumD_lst {o : Bool} {ns : List Int} : sumD [.nd .lst o (ns.map D.int)] = some (.int ns.sum) := by simp [sumD, D.seq]
@[simp] theorem allD_lst {o : Bool} {ns : List Bool} : allD [.nd .lst o (ns.map D.bl)] = some (.bl (ns.all id)) := by simp [allD, D.seq]
@[simp] theorem anyD_lst {o : Bool} {ns : List Bool} : anyD [.nd .lst o (ns.map D.bl)] = some (.bl (ns.any id)) := by simp [anyD, D.seq]
@[simp] theorem lenD_lst {o : Bool} {xs : List D} : lenD [.nd .lst o xs] = some (.int xs.length) := (rfl)
@[simp] theorem lenD_wl {o : Bool} {xs : List D} : lenD [.nd .wl o xs] = some (.int xs.length) := (rfl)
@[simp] theorem lenD_tup {o : Bool} {xs : List D} : lenD [.nd .tup o xs] = some (.int xs.length) := (rfl)
@[simp] theorem itsD_lst {o : Bool} {xs : List D} : itsD (.nd .lst o xs) = some xs := (rfl)
@[simp] theorem itsD_wl {o : Bool} {xs : List D} : itsD (.nd .wl o xs) = some xs := (rfl)
@[simp] theorem itsD_tup {o : Bool} {xs : List D} : itsD (.nd .tup o xs) = some xs := (rfl)
@[simp] theorem cpos_lst {o : Bool} {xs : List D} {i : Int} : cpos (.nd .lst o xs) (.int i) = ixN xs.length i := (rfl)
@[simp] theorem cpos_wl {o : Bool} {xs : List D} {i : Int} : cpos (.nd .wl o xs) (.int i) = ixN xs.length i := (rfl)
@[simp] theorem cpos_tup {o : Bool} {xs : List D} {i : Int} : cpos (.nd .tup o xs) (.int i) = ixN xs.length i := (rfl)
@[simp] theorem refD_nd {k : Kd} {o : Bool} {xs : List D} {y : D} : refD (.nd k o xs) y = (cpos (.nd k o xs) y).bind fun j => (xs[j]?).map fun d => (frz d, if o then .nd k o (xs.set j (frz d)) else .nd k o xs) := (rfl)
@[simp] theorem setD_lst {xs : List D} {d : D} {i : Int} : setD .lst xs (.int i) d = (ixN xs.length i).map fun j => .nd .lst true (xs.set j d) := (rfl)
@[simp] theorem sc_int {i : Int} : (D.int i).sc = true := (rfl)
@[simp] theorem sc_nd {k : Kd} {o : Bool} {xs : List D} : (D.nd k o xs).sc = false := (rfl)
@[simp] theorem log2_small {n : Nat} (h : n < 1152921504606846976) : (n.log2 < 9000) = True := by
  by_cases z : n = 0
  · subst z; simp
  · have := (Nat.log2_lt (n := n) (k := 60) z).mpr (by omega)
    exact eq_true (by omega)
@[simp] theorem ite_ok {α : Type} {c : Prop} [Decidable c] {x y : α} {e : En} : (if c then Rs.ok x e else Rs.ok y e) = Rs.ok (if c then x else y) e := by split <;> rfl
@[simp] theorem ite_int {c : Prop} [Decidable c] {x y : Int} : (if c then D.int x else D.int y) = D.int (if c then x else y) := by split <;> rfl
@[simp] theorem frz_ite {c : Prop} [Decidable c] {x y : D} : frz (if c then x else y) = if c then frz x else frz y := by split <;> rfl
theorem ixN_nat {n j : Nat} (h : j < n) : ixN n (j : Int) = some j := by unfold ixN; simp; omega
@[simp] theorem outs_nil : ∀ {n j : Nat} {sl : List (Option D)}, outs [] j n sl = List.replicate n none
  | 0, _, _ => rfl
  | n + 1, j, [] => by unfold outs; rw [outs_nil]; rfl
  | n + 1, j, o :: sl => by unfold outs; rw [outs_nil]; rfl
theorem seq_go {P : So → Prop} {s t : FS} {e : En} (e1 : En) (h1 : s e = .nx e1) (h2 : P (t e1)) : P (fSeq s t e) := by unfold fSeq; rw [h1]; exact h2
theorem seq_rt {s t : FS} {e : En} {d : D} {Q : En → Prop} (h : ∃ e1, s e = .rt d e1 ∧ Q e1) : ∃ e1, fSeq s t e = .rt d e1 ∧ Q e1 := by
  obtain ⟨e1, h, q⟩ := h
  exact ⟨e1, by unfold fSeq; rw [h], q⟩
theorem seq_goE {P : So → Prop} {s t : FS} {e : En} (h1 : ∃ e1, s e = .nx e1 ∧ P (t e1)) : P (fSeq s t e) := by obtain ⟨e1, h1, h2⟩ := h1; unfold fSeq; rw [h1]; exact h2
theorem fDef_rt {os : List (Option D)} {N : Nat} {io : List Nat} {body : FS} {ds : List D} {d : D} (h : ∃ e, body ⟨ds.map some ++ List.replicate (N - ds.length) none, none⟩ = .rt d e ∧ outs io 0 ds.length e.sl = os) : fDef N io body ds = .ok d os := by
  obtain ⟨e, h, ho⟩ := h
  unfold fDef; rw [h, ← ho]
/-- a body that returns -/
def RT (P : D → Prop) (r : So) : Prop := ∃ d e, r = .rt d e ∧ P d
theorem RT.go {N : Nat} {io : List Nat} {body : FS} {ds : List D} {P : D → Prop} (h : RT P (body ⟨ds.map some ++ List.replicate (N - ds.length) none, none⟩)) : ∃ d os, fDef N io body ds = .ok d os ∧ P d := by
  obtain ⟨d, e, h, hp⟩ := h
  exact ⟨d, _, by unfold fDef; rw [h], hp⟩
theorem RT.go0 {N : Nat} {body : FS} {ds : List D} {P : D → Prop} (h : RT P (body ⟨ds.map some ++ List.replicate (N - ds.length) none, none⟩)) : ∃ d, fDef N [] body ds = .ok d (List.replicate ds.length none) ∧ P d := by
  obtain ⟨d, e, h, hp⟩ := h
  exact ⟨d, by unfold fDef; rw [h]; dsimp only; rw [outs_nil], hp⟩
theorem rt_go {N : Nat} {io : List Nat} {body : FS} {ds : List D} {d : D} (h : ∃ e, body ⟨ds.map some ++ List.replicate (N - ds.length) none, none⟩ = .rt d e) : ∃ os, fDef N io body ds = .ok d os := by
  obtain ⟨e, h⟩ := h
  exact ⟨_, by unfold fDef; rw [h]⟩
@[simp] theorem forL_nil {g : FG} {b : FS} {e : En} : forL g b [] e = .nx e := (rfl)
theorem forL_cons {g : FG} {b : FS} {e : En} {x : D} {xs : List D} : forL g b (x :: xs) e = match g x e with
    | none => .bad
    | some e1 => match b e1 with
      | .nx e2 => forL g b xs e2
      | .ct e2 => forL g b xs e2
      | .bk e2 => .nx e2
      | r => r := (rfl)
theorem forL_step {g : FG} {b : FS} {e e1 e2 : En} {x : D} {xs : List D} (h1 : g x e = some e1) (h2 : b e1 = .nx e2) : forL g b (x :: xs) e = forL g b xs e2 := by
  rw [forL_cons, h1]; dsimp only; rw [h2]
theorem forL_ix {g : FG} {b : FS} {I : Nat → En → Prop} : ∀ {xs : List D} {e : En} {j : Nat}, I j e → (∀ i x, xs[i]? = some x → ∀ e, I (j + i) e → ∃ e1 e2, g x e = some e1 ∧ b e1 = .nx e2 ∧ I (j + i + 1) e2) → ∃ e', forL g b xs e = .nx e' ∧ I (j + xs.length) e'
  | [], e, j, h, _ => ⟨e, rfl, h⟩
  | x :: xs, e, j, h, k => by
    obtain ⟨e1, e2, h1, h2, h3⟩ := k 0 x rfl e h
    obtain ⟨e', h4, h5⟩ := forL_ix (xs := xs) (j := j + 1) h3 fun i y hy e he => by
      have z : j + 1 + i = j + (i + 1) := by omega
      rw [z] at he ⊢
      exact k (i + 1) y hy e he
    exact ⟨e', by rw [forL_step h1 h2]; exact h4, by rw [List.length_cons, ← Nat.add_assoc, Nat.add_right_comm]; exact h5⟩
theorem forL_sim {α : Type} {g : FG} {b : FS} (R : α → En → Prop) (step : D → α → α) : ∀ {xs : List D} {e : En} {s : α}, R s e → (∀ x ∈ xs, ∀ s e, R s e → ∃ e1 e2, g x e = some e1 ∧ b e1 = .nx e2 ∧ R (step x s) e2) → ∃ e', forL g b xs e = .nx e' ∧ R (xs.foldl (fun s x => step x s) s) e'
  | [], e, s, h, _ => ⟨e, rfl, h⟩
  | x :: xs, e, s, h, k => by
    obtain ⟨e1, e2, h1, h2, h3⟩ := k x List.mem_cons_self s e h
    obtain ⟨e', h4, h5⟩ := forL_sim R step h3 fun y hy => k y (List.mem_cons_of_mem _ hy)
    exact ⟨e', by rw [forL_step h1 h2]; exact h4, h5⟩
@[simp] theorem gsNil_ap {e : En} : gsNil [] e = some e := (rfl)
@[simp] theorem gsCons_ap {g : FG} {r : FGs} {d : D} {ds : List D} {e : En} : gsCons g r (d :: ds) e = (g d e).bind (r ds) := (rfl)
@[simp] theorem gT_tup {n : Nat} {r : FGs} {o : Bool} {xs : List D} {e : En} : gT n r (.nd .tup o xs) e = if xs.length = n then r (frzs xs) e else none := by
  unfold gT; rw [frz_nd]; dsimp only; rw [frzs_len]
theorem try_exc {i : Nat} {isA : Str → Option Bool} {b u : FS} {e : En} {sl : List (Option D)} {ex : Option Exc} {x : Exc} (h : b e = .exc x ⟨sl, ex⟩) (hA : isA x.c = some true) (hi : i < sl.length) : fTryAs i isA b u e = (u ⟨sl.set i none, some x⟩).calm i := by
  unfold fTryAs; rw [h]; dsimp only; rw [hA]; dsimp only; rw [if_pos hi]; rfl
theorem try_nx {i : Nat} {isA : Str → Option Bool} {b u : FS} {e e1 : En} (h : b e = .nx e1) : fTryAs i isA b u e = .nx e1 := by
  unfold fTryAs; rw [h]
@[simp] theorem calm_nx {i : Nat} {sl : List (Option D)} {ex : Option Exc} : (So.nx ⟨sl, ex⟩).calm i = .nx ⟨sl.set i none, none⟩ := (rfl)
@[simp] theorem calm_rt {i : Nat} {d : D} {sl : List (Option D)} {ex : Option Exc} : (So.rt d ⟨sl, ex⟩).calm i = .rt d ⟨sl.set i none, none⟩ := (rfl)
/-- a for whose turns all go on -/
theorem forL_inv {g : FG} {b : FS} {I : En → Prop} : ∀ {xs : List D} {e : En}, I e → (∀ x ∈ xs, ∀ e, I e → ∃ e1 e2, g x e = some e1 ∧ b e1 = .nx e2 ∧ I e2) → ∃ e', forL g b xs e = .nx e' ∧ I e'
  | [], e, h, _ => ⟨e, rfl, h⟩
  | x :: xs, e, h, k => by
    obtain ⟨e1, e2, h1, h2, h3⟩ := k x List.mem_cons_self e h
    obtain ⟨e', h4, h5⟩ := forL_inv h3 fun y hy => k y (List.mem_cons_of_mem _ hy)
    exact ⟨e', by unfold forL; rw [h1]; dsimp only; rw [h2]; exact h4, h5⟩
/-- a comprehension without tests -/
theorem lcL_map {vs : List Nat} {g : FG} {tt : FT} {el : FE} {base : En} {y : D → D} : ∀ {xs acc : List D}, (∀ x ∈ xs, ∃ e1 e2 e3, g x base = some e1 ∧ tt e1 = .ok true e2 ∧ el e2 = .ok (y x) e3 ∧ delL e3 vs = base) → acc.length + xs.length ≤ lim →
    lcL vs g tt el xs acc base = .ok (acc ++ xs.map y) base
  | [], acc, _, _ => by rw [List.map_nil, List.append_nil]; rfl
  | x :: xs, acc, h, hl => by
    obtain ⟨e1, e2, e3, h1, h2, h3, h4⟩ := h x List.mem_cons_self
    rw [List.length_cons] at hl
    have ih := lcL_map (xs := xs) (acc := acc ++ [y x]) (fun z hz => h z (List.mem_cons_of_mem _ hz)) (by simp; omega)
    unfold lcL
    rw [h1]; dsimp only
    rw [h2, Rs.nox_ok, Rs.bind_ok, if_pos rfl, h3, Rs.nox_ok, Rs.bind_ok, if_pos (by omega), h4, ih]
    simp
theorem lcL_flt {vs : List Nat} {g : FG} {tt : FT} {el : FE} {base : En} {p : D → Bool} {y : D → D} : ∀ {xs acc : List D}, (∀ x ∈ xs, ∃ e1 e2, g x base = some e1 ∧ tt e1 = .ok (p x) e2 ∧ (p x = true → ∃ e3, el e2 = .ok (y x) e3 ∧ delL e3 vs = base) ∧ (p x = false → delL e2 vs = base)) → acc.length + xs.length ≤ lim →
    lcL vs g tt el xs acc base = .ok (acc ++ (xs.filter p).map y) base
  | [], acc, _, _ => by rw [List.filter_nil, List.map_nil, List.append_nil]; rfl
  | x :: xs, acc, h, hl => by
    obtain ⟨e1, e2, h1, h2, h3, h4⟩ := h x List.mem_cons_self
    rw [List.length_cons] at hl
    unfold lcL
    rw [h1]; dsimp only
    rw [h2, Rs.nox_ok, Rs.bind_ok]
    cases hp : p x with
    | true =>
      obtain ⟨e3, h5, h6⟩ := h3 hp
      rw [if_pos rfl, h5, Rs.nox_ok, Rs.bind_ok, if_pos (by omega), h6, lcL_flt (fun z hz => h z (List.mem_cons_of_mem _ hz)) (by simp; omega), List.filter_cons, if_pos hp]
      simp
    | false =>
      rw [if_neg (by simp), h4 hp, lcL_flt (fun z hz => h z (List.mem_cons_of_mem _ hz)) (by omega), List.filter_cons, if_neg (by simp [hp])]
theorem set_same {α : Type} {xs : List α} {j : Nat} {d : α} (h : xs[j]? = some d) : xs.set j d = xs := by
  obtain ⟨h1, h2⟩ := List.getElem?_eq_some_iff.mp h
  rw [← h2, List.set_getElem_self]
theorem rngD_at {lo : Int} {n i : Nat} {x : D} (h : (rngD lo n)[i]? = some x) : i < n ∧ x = .int (lo + i) := by
  unfold rngD at h
  rw [List.getElem?_map] at h
  obtain ⟨j, h1, h2⟩ := Option.map_eq_some_iff.mp h
  obtain ⟨h3, h4⟩ := List.getElem?_eq_some_iff.mp h1
  rw [List.getElem_range] at h4
  subst h4
  exact ⟨by simpa using h3, h2.symm⟩
theorem rngD_mem {lo : Int} {n : Nat} {x : D} (h : x ∈ rngD lo n) : ∃ i : Nat, i < n ∧ x = .int (lo + i) := by
  obtain ⟨i, hi, rfl⟩ := List.mem_map.mp h
  exact ⟨i, List.mem_range.mp hi, rfl⟩
@[simp] theorem rngD_length {lo : Int} {n : Nat} : (rngD lo n).length = n := by simp [rngD]
theorem sum_bound {B : Int} : ∀ {ns : List Int}, (∀ x ∈ ns, 0 ≤ x ∧ x ≤ B) → 0 ≤ ns.sum ∧ ns.sum ≤ B * ns.length
  | [], _ => by simp
  | n :: ns, h => by
    have h1 := h n List.mem_cons_self
    have ih := sum_bound fun x hx => h x (List.mem_cons_of_mem _ hx)
    rw [List.sum_cons, List.length_cons]
    have : B * ((ns.length + 1 : Nat) : Int) = B * ns.length + B := by rw [Int.natCast_add]; simp [Int.mul_add]
    omega
theorem mulOk_of {i j : Int} (hi : i.natAbs < 2 ^ 400000) (hj : j.natAbs < 2 ^ 400000) : mulOk i j = true := by
  unfold mulOk
  have h : ∀ n : Nat, n < 2 ^ 400000 → n.log2 ≤ 400000 := fun n h => by
    by_cases z : n = 0
    · subst z; simp
    · exact Nat.le_of_lt ((Nat.log2_lt z).mpr h)
  have := h _ hi
  have := h _ hj
  exact decide_eq_true (by omega)
theorem mulOk_60 {i j : Int} (hi : i.natAbs < 2 ^ 62) (hj : j.natAbs < 2 ^ 62) : mulOk i j = true :=
  mulOk_of (Nat.lt_of_lt_of_le hi (Nat.pow_le_pow_right (by decide) (by decide))) (Nat.lt_of_lt_of_le hj (Nat.pow_le_pow_right (by decide) (by decide)))
end Bx

set_option Elab.async false
set_option linter.all false
set_option maxRecDepth 100000
/-! What every law draws with: its stock of numbers, its own likeness. -/
namespace Lw
open PySem L2 Bx
def B_law_source : FS := (fSeq (fAsg (gN 2) (eIf (tTst (eBin ltD (eN 1) (eCallB lenD (aIo 0 aNil)))) (eCallB intD (aCons (eIxN 0 (eN 1)) aNil)) (eBin addD (eBin mulD (eC (.int 29)) (eCallB sumD (aCons (eLc [5] (iE (eSl (eN 0) none (some (eC (.int 6))))) (gN 5) tYesF (eBin modD (eCallB intD (aIo 5 aNil)) (eC (.int 999983)))) aNil))) (eC (.int 23))))) (fSeq (fAsg (gN 3) (eBin modD (eCallB absD (aIo 2 aNil)) (eBin mulD (eBin powD (eC (.int 10)) (eC (.int 60))) (eBin powD (eC (.int 10)) (eC (.int 60)))))) (fSeq (fAsg (gN 4) (eBin modD (eCallB intD (aCons (eBin addD (eBin addD (eBin addD (eBin mulD (eC (.int 2)) (eN 3)) (eIf (tTst (eBin ltD (eN 2) (eC (.int 0)))) (eC (.int 1)) (eC (.int 0)))) (eBin mulD (eN 1) (eC (.int 120121)))) (eC (.int 65537))) aNil)) (eC (.int 2147483629)))) (fRet (eLst (aCons (eIf (tTst (eBin geD (eN 3) (eBin powD (eC (.int 10)) (eC (.int 18))))) (eN 3) (eC (.int 0))) (aCons (eBin modD (eCallB intD (aCons (eBin mulD (eBin addD (eN 4) (eC (.int 6151))) (eBin addD (eN 4) (eC (.int 98317)))) aNil)) (eC (.int 2147483629))) (aCons (eN 1) aNil))))))))
def F_law_source : List D → CR := fDef 6 [] B_law_source
def B_law_pick : FS := (fSeq (fIf (tTst (eBin gtD (eIxN 0 (eC (.int 0))) (eC (.int 0)))) (fSeq (fAsg (gN 2) (eBin modD (eCallB intD (aCons (eIxN 0 (eC (.int 0))) aNil)) (eN 1))) (fSeq (fSetN 0 (eC (.int 0)) (eBin divD (eIxN 0 (eC (.int 0))) (eN 1))) (fRetV 2))) fNext) (fSeq (fAugN 0 addID (eC (.int 2)) (eC (.int 1))) (fSeq (fSetN 0 (eC (.int 1)) (eBin modD (eCallB intD (aCons (eBin addD (eBin mulD (eIxN 0 (eC (.int 1))) (eC (.int 48271))) (eBin mulD (eIxN 0 (eC (.int 2))) (eC (.int 60013)))) aNil)) (eC (.int 2147483647)))) (fRet (eBin modD (eBin divD (eBin modD (eCallB intD (aCons (eBin addD (eBin mulD (eIxN 0 (eC (.int 1))) (eC (.int 16807))) (eBin mulD (eIxN 0 (eC (.int 2))) (eC (.int 7411)))) aNil)) (eC (.int 2147483629))) (eC (.int 8))) (eN 1))))))
def F_law_pick : List D → CR := fDef 3 [0] B_law_pick
def F_law_same : Nat → List D → CR
  | 0 => fun _ => .bad
  | n + 1 => fDef 6 [] (fSeq (fIf (tTst (eCallB isiD (aIo 1 (aCons (eC (.ty "dict")) aNil)))) (fSeq (fAsg (gN 2) (eLc [3] (iE (eN 1)) (gN 3) tYesF (eLst (aCons (eN 3) (aCons (eIxN 1 (eN 3)) aNil))))) (fSeq (fIf (tOr (tNt (tTst (eCallB isiD (aIo 0 (aCons (eC (.ty "dict")) aNil))))) (tTst (eBin neD (eCallB lenD (aIo 0 aNil)) (eCallB lenD (aIo 1 aNil))))) (fRet (eC (.bl false))) fNext) (fRet (eCallB allD (aCons (eLc [3, 4] (iE (eN 2)) (gT 2 (gsCons (gN 3) (gsCons (gN 4) gsNil))) tYesF (eAnd (eBin inD (eN 3) (eN 0)) (eCall 2 (F_law_same n) (aCons (eIxN 0 (eN 3)) (aCons (eN 4) aNil))))) aNil))))) fNext) (fSeq (fIf (tTst (eCallB isiD (aIo 1 (aCons (eTup (aCons (eC (.ty "list")) (aCons (eC (.ty "tuple")) aNil))) aNil)))) (fSeq (fIf (tOr (tTst (eBin neD (eCallB isiD (aIo 1 (aCons (eC (.ty "list")) aNil))) (eCallB isiD (aIo 0 (aCons (eC (.ty "list")) aNil))))) (tTst (eBin neD (eCallB isiD (aIo 1 (aCons (eC (.ty "tuple")) aNil))) (eCallB isiD (aIo 0 (aCons (eC (.ty "tuple")) aNil)))))) (fRet (eC (.bl false))) fNext) (fRet (eAnd (eBin eqD (eCallB lenD (aIo 0 aNil)) (eCallB lenD (aIo 1 aNil))) (eCallB allD (aCons (eLc [5] (iRng1 (aCons (eCallB lenD (aIo 1 aNil)) aNil)) (gN 5) tYesF (eCall 2 (F_law_same n) (aCons (eIxN 0 (eN 5)) (aCons (eIxN 1 (eN 5)) aNil)))) aNil))))) fNext) (fRet (eAnd (eOr (eBin isD (eN 0) (eC .non)) (eCallB isiD (aIo 0 (aCons (eTup (aCons (eC (.ty "int")) (aCons (eC (.ty "str")) aNil))) aNil)))) (eBin eqD (eCallB reprD (aIo 0 aNil)) (eCallB reprD (aIo 1 aNil)))))))
/-- a stock: n picks are still free -/
def Stk (n : Nat) (s : D) : Prop := ∃ a b c : Int, s = .nd .lst true [.int a, .int b, .int c] ∧ 0 ≤ a ∧ 0 ≤ b ∧ b < 2147483647 ∧ 0 ≤ c ∧ c + n < 2 ^ 60
theorem pick_ok {n : Nat} {s : D} {m : Int} (h : Stk (n + 1) s) (hm : 0 < m) (hm2 : m < 2 ^ 60) : ∃ r s', F_law_pick [s, .int m] = .ok (.int r) [some s', none] ∧ 0 ≤ r ∧ r < m ∧ Stk n s' := by
  obtain ⟨a, b, c, rfl, ha, hb, hb2, hc, hcn⟩ := h
  have m1 : mulOk b 48271 = true := mulOk_60 (by omega) (by decide)
  have m2 : mulOk (c + 1) 60013 = true := mulOk_60 (by omega) (by decide)
  have m3 : mulOk ((b * 48271 + (c + 1) * 60013) % 2147483647) 16807 = true := mulOk_60 (by omega) (by decide)
  have m4 : mulOk (c + 1) 7411 = true := mulOk_60 (by omega) (by decide)
  unfold F_law_pick fDef B_law_pick
  by_cases h0 : 0 < a
  · have m5 : m.natAbs < 1152921504606846976 := by omega
    simp [fSeq, h0, ixN, hm, m5, outs]
    refine ⟨_, _, ⟨rfl, rfl⟩, Int.emod_nonneg _ (by omega), Int.emod_lt_of_pos _ hm, _, _, _, rfl, Int.ediv_nonneg ha (by omega), hb, hb2, hc, by omega⟩
  · simp [fSeq, h0, ixN, hm, m1, m2, m3, m4, outs]
    refine ⟨_, _, ⟨rfl, rfl⟩, Int.emod_nonneg _ (by omega), Int.emod_lt_of_pos _ hm, _, _, _, rfl, ha, Int.emod_nonneg _ (by omega), Int.emod_lt_of_pos _ (by omega), by omega, by omega⟩
theorem cutD_ints {ns : List Int} {lo hi : Option Int} : ∃ ms : List Int, cutD (ns.map D.int) lo hi = ms.map D.int ∧ ms.length ≤ ns.length := by
  unfold cutD
  refine ⟨List.take (HT.sIx (ns.map D.int).length (ns.map D.int).length hi - HT.sIx (ns.map D.int).length 0 lo) (List.drop (HT.sIx (ns.map D.int).length 0 lo) ns), by rw [List.map_take, List.map_drop], ?_⟩
  rw [List.length_take, List.length_drop]
  omega
theorem source_ok {ns : List Int} {k : Int} (hl : ns.length ≤ 63) (hk : 0 ≤ k) (hk2 : k ≤ 100000) : ∃ s, F_law_source [.nd .wl false (ns.map D.int), .int k] = .ok s [none, none] ∧ Stk (2 ^ 59) s := by
  obtain ⟨ms, hm, hml⟩ := cutD_ints (ns := ns) (lo := none) (hi := some 6)
  have hc : lcL [5] (gN 5) tYesF (eBin modD (eCallB intD (aIo 5 aNil)) (eC (.int 999983))) (ms.map D.int) [] ⟨[some (.nd .wl false (ns.map D.int)), some (.int k), none, none, none, none], none⟩ = .ok ((ms.map fun i : Int => i % 999983).map D.int) ⟨[some (.nd .wl false (ns.map D.int)), some (.int k), none, none, none, none], none⟩ := by
    have h := lcL_map (vs := [5]) (g := gN 5) (tt := tYesF) (el := eBin modD (eCallB intD (aIo 5 aNil)) (eC (.int 999983))) (base := ⟨[some (.nd .wl false (ns.map D.int)), some (.int k), none, none, none, none], none⟩) (y := fun d => match d with | .int i => .int (i % 999983) | d => d) (xs := ms.map D.int) (acc := []) (fun x hx => by
      obtain ⟨i, _, rfl⟩ := List.mem_map.mp hx
      exact ⟨_, _, _, by simp; rfl, rfl, by simp; rfl, by simp⟩) (by simp [lim]; omega)
    rw [h, List.nil_append, List.map_map, List.map_map]
    rfl
  have hsum : 0 ≤ (ms.map fun i : Int => i % 999983).sum ∧ (ms.map fun i : Int => i % 999983).sum ≤ 999983 * (ms.map fun i : Int => i % 999983).length := by
   refine sum_bound (B := 999983) (ns := ms.map fun i : Int => i % 999983) fun x hx => ?_
   · obtain ⟨i, _, rfl⟩ := List.mem_map.mp hx
     exact ⟨Int.emod_nonneg _ (by decide), Int.le_of_lt (Int.emod_lt_of_pos _ (by decide))⟩
  rw [List.length_map] at hsum
  have m1 : mulOk 29 (ms.map fun i : Int => i % 999983).sum = true := mulOk_60 (by decide) (by omega)
  unfold F_law_source
  refine RT.go0 ?_
  unfold B_law_source
  have hs : ∃ cell : Int, (fAsg (gN 2) (eIf (tTst (eBin ltD (eN 1) (eCallB lenD (aIo 0 aNil)))) (eCallB intD (aCons (eIxN 0 (eN 1)) aNil)) (eBin addD (eBin mulD (eC (.int 29)) (eCallB sumD (aCons (eLc [5] (iE (eSl (eN 0) none (some (eC (.int 6))))) (gN 5) tYesF (eBin modD (eCallB intD (aIo 5 aNil)) (eC (.int 999983)))) aNil))) (eC (.int 23))))) ⟨[some (.nd .wl false (ns.map D.int)), some (.int k), none, none, none, none], none⟩ = .nx ⟨[some (.nd .wl false (ns.map D.int)), some (.int k), some (.int cell), none, none, none], none⟩ := by
    by_cases hlt : k < ns.length
    · have hx : ixN ns.length k = some k.toNat := by unfold ixN; simp [hk, hlt]
      have h0 : k.toNat < ns.length := by omega
      simp [hlt, hx, h0]
    · simp [hlt, eSl, pE, sliceD, D.seq, hm]
      rw [hc]
      simp [m1, -List.map_map]
  obtain ⟨cell, hs⟩ := hs
  refine seq_go _ hs ?_
  have m2 : mulOk 1000000000000000000000000000000000000000000000000000000000000 1000000000000000000000000000000000000000000000000000000000000 = true := by decide +kernel
  have hp : (0 : Int) < 1000000000000000000000000000000000000000000000000000000000000000000000000000000000000000000000000000000000000000000000000 := by decide +kernel
  refine seq_goE ⟨⟨[some (.nd .wl false (ns.map D.int)), some (.int k), some (.int cell), some (.int ((if cell < 0 then -cell else cell) % 1000000000000000000000000000000000000000000000000000000000000000000000000000000000000000000000000000000000000000000000000)), none, none], none⟩, ?_, ?_⟩
  · simp [m2, hp]
  generalize hz : (if cell < 0 then -cell else cell) % 1000000000000000000000000000000000000000000000000000000000000000000000000000000000000000000000000000000000000000000000000 = size
  have z0 : 0 ≤ size := by rw [← hz]; exact Int.emod_nonneg _ (by omega)
  have z1 : size < 1000000000000000000000000000000000000000000000000000000000000000000000000000000000000000000000000000000000000000000000000 := by rw [← hz]; exact Int.emod_lt_of_pos _ hp
  have m3 : mulOk 2 size = true := mulOk_of (Nat.lt_of_lt_of_le (by decide : 2 < 2 ^ 2) (Nat.pow_le_pow_right (by decide) (by decide)))
    (Nat.lt_of_lt_of_le (by have h3 : 1000000000000000000000000000000000000000000000000000000000000000000000000000000000000000000000000000000000000000000000000 ≤ 2 ^ 400 := by decide +kernel
                            omega) (Nat.pow_le_pow_right (by decide) (by decide : 400 ≤ 400000)))
  have m4 : mulOk k 120121 = true := mulOk_60 (by omega) (by decide)
  have hb : ∃ b : Int, 2 * size + (if cell < 0 then 1 else 0) + k * 120121 + 65537 = b := ⟨_, rfl⟩
  obtain ⟨b, hb⟩ := hb
  refine seq_goE ⟨⟨[some (.nd .wl false (ns.map D.int)), some (.int k), some (.int cell), some (.int size), some (.int (b % 2147483629)), none], none⟩, ?_, ?_⟩
  · subst hb
    by_cases h0 : cell < 0 <;> simp [m3, m4, h0]
  have q0 : 0 ≤ b % 2147483629 := Int.emod_nonneg _ (by decide)
  have q1 : b % 2147483629 < 2147483629 := Int.emod_lt_of_pos _ (by decide)
  generalize b % 2147483629 = small at q0 q1 ⊢
  have m5 : mulOk (small + 6151) (small + 98317) = true := mulOk_60 (by omega) (by omega)
  by_cases h0 : 1000000000000000000 ≤ size
  · refine ⟨_, _, by simp [m5, h0, lim]; exact ⟨rfl, rfl⟩, ?_⟩
    refine ⟨_, _, _, rfl, by omega, Int.emod_nonneg _ (by decide), ?_, hk, by omega⟩
    have := Int.emod_lt_of_pos ((small + 6151) * (small + 98317)) (by decide : (0 : Int) < 2147483629)
    omega
  · refine ⟨_, _, by simp [m5, h0, lim]; exact ⟨rfl, rfl⟩, ?_⟩
    refine ⟨_, _, _, rfl, by omega, Int.emod_nonneg _ (by decide), ?_, hk, by omega⟩
    have := Int.emod_lt_of_pos ((small + 6151) * (small + 98317)) (by decide : (0 : Int) < 2147483629)
    omega
theorem strOk_ofString (s : String) : PyData.strOk (Str.ofString s) = true := by
  unfold PyData.strOk
  rw [Str.ofString_eq_toList]
  simp
  intro c _
  rcases c.valid with h | ⟨_, h⟩
  · exact Nat.lt_trans h (by decide)
  · exact h
theorem eqD_int {i j : Int} : eqD (.int i) (.int j) = some (.bl (i == j)) := by
  simp [eqD, eqOk, pyd, SeqAt.shaped, PyData.eqv, PyData.canLay0, PyData.depth]
theorem neD_int {i j : Int} : neD (.int i) (.int j) = some (.bl (!(i == j))) := by
  simp [neD, eqOk, pyd, SeqAt.shaped, PyData.eqv, PyData.canLay0, PyData.depth]
theorem neD_bl {i j : Bool} : neD (.bl i) (.bl j) = some (.bl (!(i == j))) := by
  simp [neD, eqOk, pyd, SeqAt.shaped, PyData.eqv, PyData.canLay0, PyData.depth]
theorem eqD_str {i j : Str} (hi : PyData.strOk i = true) (hj : PyData.strOk j = true) : eqD (.str i) (.str j) = some (.bl (i == j)) := by
  simp [eqD, eqOk, pyd, SeqAt.shaped, PyData.eqv, PyData.canLay0, PyData.depth, hi, hj]
/-- a comprehension without tests, an invariant kept -/
theorem lcL_inv {vs : List Nat} {g : FG} {tt : FT} {el : FE} {I : En → Prop} {y : D → D} : ∀ {xs acc : List D} {e : En}, I e → (∀ x ∈ xs, ∀ e, I e → ∃ e1 e2 e3, g x e = some e1 ∧ tt e1 = .ok true e2 ∧ el e2 = .ok (y x) e3 ∧ I (delL e3 vs)) → acc.length + xs.length ≤ lim →
    ∃ e', lcL vs g tt el xs acc e = .ok (acc ++ xs.map y) e' ∧ I e'
  | [], acc, e, hi, _, _ => ⟨e, by rw [List.map_nil, List.append_nil]; rfl, hi⟩
  | x :: xs, acc, e, hi, h, hl => by
    obtain ⟨e1, e2, e3, h1, h2, h3, h4⟩ := h x List.mem_cons_self e hi
    rw [List.length_cons] at hl
    obtain ⟨e', ih, hi'⟩ := lcL_inv (xs := xs) (acc := acc ++ [y x]) h4 (fun z hz => h z (List.mem_cons_of_mem _ hz)) (by simp; omega)
    refine ⟨e', ?_, hi'⟩
    unfold lcL
    rw [h1]; dsimp only
    rw [h2, Rs.nox_ok, Rs.bind_ok, if_pos rfl, h3, Rs.nox_ok, Rs.bind_ok, if_pos (by omega), ih]
    simp
/-- what _law_same looks through, at most n levels -/
def okS : Nat → D → Bool
  | 0, _ => false
  | n + 1, d => match d with
    | .non => true
    | .bl _ => true
    | .int i => decide (i.natAbs.log2 < 1920)
    | .str x => decide ((reprText x).length ≤ 16000000) && PyData.strOk (reprText x)
    | .nd .lst _ xs => decide (xs.length < 2 ^ 20) && xs.all (okS n)
    | .nd .tup _ xs => decide (xs.length < 2 ^ 20) && xs.all (okS n)
    | _ => false
theorem frz_sc {a b : D} (h : frz a = frz b) (hb : b.sc = true) : a = b := by
  cases b with
  | nd _ _ _ => cases hb
  | _ => cases a <;> simp_all
theorem frz_seq {a : D} {k : Kd} {o : Bool} {xs : List D} (h : frz a = frz (.nd k o xs)) : ∃ o' ys, a = .nd k o' ys ∧ frzs ys = frzs xs := by
  cases a with
  | nd k' o' ys =>
    rw [frz_nd, frz_nd] at h
    injection h with h1 h2 h3
    subst h1
    exact ⟨o', ys, rfl, h3⟩
  | _ => simp at h
theorem frzs_at : ∀ {xs : List D} {i : Nat}, (frzs xs)[i]? = (xs[i]?).map frz
  | [], _ => rfl
  | x :: xs, 0 => rfl
  | x :: xs, i + 1 => by rw [frzs_cons, List.getElem?_cons_succ, List.getElem?_cons_succ, frzs_at]
theorem same_sc {n : Nat} {d : D} (hd : d.sc = true) (h : okS (n + 1) d = true) : F_law_same (n + 1) [d, d] = .ok (.bl true) [none, none] := by
  unfold F_law_same
  cases d with
  | nd _ _ _ => cases hd
  | ty _ => simp [okS] at h
  | int i =>
    have h' : i.natAbs.log2 < 1920 := by simpa [okS] using h
    simp [lim, fDef, fSeq, isiD, tyD, tyNs, subT, tysD, isD, reprD, eqD_str, h', strOk_ofString]
  | non => 
    simp [lim, fDef, fSeq, isiD, tyD, tyNs, subT, tysD, isD, reprD, eqD_str, strOk_ofString]
  | bl k =>
    cases k <;> simp [lim, fDef, fSeq, isiD, tyD, tyNs, subT, tysD, isD, reprD, eqD_str, strOk_ofString]
  | str x => 
    have h' : (reprText x).length ≤ 16000000 ∧ PyData.strOk (reprText x) = true := by simpa [okS] using h
    simp [lim, fDef, fSeq, isiD, tyD, tyNs, subT, tysD, isD, reprD, eqD_str, h'.1, h'.2]
theorem frzs_map : ∀ xs : List D, frzs xs = xs.map frz
  | [] => rfl
  | x :: xs => by rw [frzs_cons, List.map_cons, frzs_map xs]
theorem frzs_set {xs : List D} {i : Nat} {d : D} (h : xs[i]? = some d) : frzs (xs.set i (frz d)) = frzs xs := by
  apply List.ext_getElem?
  intro j
  rw [frzs_at, frzs_at, List.getElem?_set]
  split
  · rename_i e
    subst e
    have hl : i < xs.length := (List.getElem?_eq_some_iff.mp h).1
    rw [if_pos hl, h, Option.map_some, Option.map_some, frz_frz]
  · rfl
theorem okS_frz : ∀ (n : Nat) (d : D), okS n (frz d) = okS n d
  | 0, _ => rfl
  | n + 1, d => by
    cases d with
    | nd k o xs =>
      have h : (frzs xs).all (okS n) = xs.all (okS n) := by
        rw [frzs_map, List.all_map]
        congr 1
        funext x
        exact okS_frz n x
      rw [frz_nd]
      cases k <;> simp [okS, h, frzs_len]
    | _ => rfl
theorem same_seq {n : Nat} {k : Kd} (hk : k = .lst ∨ k = .tup) (ih : ∀ a b, frz a = frz b → okS n b = true → F_law_same n [a, b] = .ok (.bl true) [none, none]) {o o' : Bool} {xs ys : List D} (he : frzs ys = frzs xs) (hl : xs.length < 2 ^ 20) (hx : ∀ x ∈ xs, okS n x = true) :
    F_law_same (n + 1) [.nd k o' ys, .nd k o xs] = .ok (.bl true) [none, none] := by
  have hlen : ys.length = xs.length := by rw [← frzs_len ys, he, frzs_len]
  have hr : (xs.length : Int) < 4611686018427387904 := by omega
  have hr0 : -4611686018427387904 < (xs.length : Int) := by omega
  have key : ∃ e', lcL [5] (gN 5) tYesF (eCall 2 (F_law_same n) (aCons (eIxN 0 (eN 5)) (aCons (eIxN 1 (eN 5)) aNil))) (rngD 0 xs.length) [] ⟨[some (.nd k o' ys), some (.nd k o xs), none, none, none, none], none⟩ = .ok ([] ++ (rngD 0 xs.length).map fun _ => .bl true) e' ∧ ∃ o1 ys1 o2 xs1, e' = ⟨[some (.nd k o1 ys1), some (.nd k o2 xs1), none, none, none, none], none⟩ ∧ frzs ys1 = frzs xs ∧ frzs xs1 = frzs xs := by
    refine lcL_inv (I := fun e => ∃ o1 ys1 o2 xs1, e = ⟨[some (.nd k o1 ys1), some (.nd k o2 xs1), none, none, none, none], none⟩ ∧ frzs ys1 = frzs xs ∧ frzs xs1 = frzs xs) ⟨o', ys, o, xs, rfl, he, rfl⟩ (fun x hxm e hI => ?_) (by simp [rngD, lim]; omega)
    obtain ⟨o1, ys1, o2, xs1, rfl, h1, h2⟩ := hI
    obtain ⟨i, hi, rfl⟩ := List.mem_map.mp hxm
    have hi := List.mem_range.mp hi
    have l1 : ys1.length = xs.length := by rw [← frzs_len ys1, h1, frzs_len]
    have l2 : xs1.length = xs.length := by rw [← frzs_len xs1, h2, frzs_len]
    obtain ⟨d, hd⟩ : ∃ d, xs[i]? = some d := ⟨_, List.getElem?_eq_getElem hi⟩
    obtain ⟨d1, hd1⟩ : ∃ d, ys1[i]? = some d := ⟨_, List.getElem?_eq_getElem (by omega)⟩
    obtain ⟨d2, hd2⟩ : ∃ d, xs1[i]? = some d := ⟨_, List.getElem?_eq_getElem (by omega)⟩
    have f1 : frz d1 = frz d := by
      have := congrArg (·[i]?) h1
      simp only [frzs_at, hd, hd1, Option.map_some] at this
      exact Option.some.inj this
    have f2 : frz d2 = frz d := by
      have := congrArg (·[i]?) h2
      simp only [frzs_at, hd, hd2, Option.map_some] at this
      exact Option.some.inj this
    have i1 : ixN ys1.length (i : Int) = some i := ixN_nat (by omega)
    have i2 : ixN xs1.length (i : Int) = some i := ixN_nat (by omega)
    have g1 : okS n (frz d2) = true := by rw [f2, okS_frz]; exact hx d (List.mem_of_getElem? hd)
    have hq := ih (frz d1) (frz d2) (by rw [frz_frz, frz_frz, f1, f2]) g1
    have c1 : ∀ o ys, cpos (.nd k o ys) (.int (i : Int)) = ixN ys.length (i : Int) := fun o ys => by rcases hk with rfl | rfl <;> rfl
    cases o1 <;> cases o2
    · exact ⟨_, _, _, by simp; rfl, rfl, by simp [c1, i1, i2, hd1, hd2, hq]; rfl, false, ys1, false, xs1, by simp, h1, h2⟩
    · exact ⟨_, _, _, by simp; rfl, rfl, by simp [c1, i1, i2, hd1, hd2, hq]; rfl, false, ys1, true, xs1.set i (frz d2), by simp, h1, by rw [frzs_set hd2, h2]⟩
    · exact ⟨_, _, _, by simp; rfl, rfl, by simp [c1, i1, i2, hd1, hd2, hq]; rfl, true, ys1.set i (frz d1), false, xs1, by simp, by rw [frzs_set hd1, h1], h2⟩
    · exact ⟨_, _, _, by simp; rfl, rfl, by simp [c1, i1, i2, hd1, hd2, hq]; rfl, true, ys1.set i (frz d1), true, xs1.set i (frz d2), by simp, by rw [frzs_set hd1, h1], by rw [frzs_set hd2, h2]⟩
  obtain ⟨e', hk', o1, ys1, o2, xs1, rfl, _, _⟩ := key
  have hall : ((rngD 0 xs.length).map fun _ => D.bl true) = (List.replicate xs.length true).map D.bl := by
    rw [List.map_replicate]
    unfold rngD
    rw [List.map_map, List.eq_replicate_iff]
    refine ⟨by simp, fun b hb => ?_⟩
    obtain ⟨_, _, rfl⟩ := List.mem_map.mp hb
    rfl
  rw [List.nil_append, hall] at hk'
  unfold F_law_same
  rcases hk with rfl | rfl
  · simp [lim, fDef, fSeq, isiD, tyD, tyNs, subT, tysD, neD_bl, eqD_int, hlen, hr, hr0, hk', -List.map_replicate]
  · simp [lim, fDef, fSeq, isiD, tyD, tyNs, subT, tysD, neD_bl, eqD_int, hlen, hr, hr0, hk', -List.map_replicate]
theorem same_ok : ∀ (n : Nat) (a b : D), frz a = frz b → okS n b = true → F_law_same n [a, b] = .ok (.bl true) [none, none]
  | 0, _, _, _, h => by simp [okS] at h
  | n + 1, a, b, he, h => by
    by_cases hb : b.sc = true
    · rw [frz_sc he hb]; exact same_sc hb h
    · cases b with
      | nd k o xs =>
        obtain ⟨o', ys, rfl, hf⟩ := frz_seq he
        cases k with
        | lst =>
          have h' : xs.length < 2 ^ 20 ∧ ∀ x ∈ xs, okS n x = true := by simpa [okS] using h
          exact same_seq (.inl rfl) (same_ok n) hf h'.1 h'.2
        | tup =>
          have h' : xs.length < 2 ^ 20 ∧ ∀ x ∈ xs, okS n x = true := by simpa [okS] using h
          exact same_seq (.inr rfl) (same_ok n) hf h'.1 h'.2
        | _ => simp [okS] at h
      | _ => exact absurd rfl hb
end Lw

set_option Elab.async false
set_option linter.all false
set_option maxRecDepth 100000
/-! printed by gen.py: the defs over data -/
namespace K24
open PySem L2 Bx Lw
def isA_BadRow : Str → Option Bool := fun c => if c = "BadRow" then some true else none
def B_law_e_number : FS := (fSeq (fAsg (gN 2) (eCall 2 F_law_pick (aIo 0 (aCons (eC (.int 3)) aNil)))) (fSeq (fIf (tTst (eBin eqD (eN 2) (eC (.int 0)))) (fRet (eCall 2 F_law_pick (aIo 0 (aCons (eC (.int 9)) aNil)))) fNext) (fSeq (fIf (tTst (eBin eqD (eN 2) (eC (.int 1)))) (fRet (eCallB maxD (aCons (eC (.int 0)) (aCons (eCallB minD (aCons (eC (.int 99999)) (aCons (eBin subD (eBin addD (eN 1) (eCall 2 F_law_pick (aIo 0 (aCons (eC (.int 5)) aNil)))) (eC (.int 2))) aNil))) aNil)))) fNext) (fRet (eCall 2 F_law_pick (aIo 0 (aCons (eC (.int 100000)) aNil)))))))
def F_law_e_number : List D → CR := fDef 3 [0] B_law_e_number
def B_check_numbers : FS := (fFor (iRng1 (aCons (eCallB lenD (aIo 0 aNil)) aNil)) (gN 2) (fIf (tTst (eBin ltD (eIxN 0 (eN 2)) (eIxN 1 (eN 2)))) (fRaise "BadRow" ["what"] (aCons (eC (.str "numbers")) aNil)) fNext))
def F_check_numbers : List D → CR := fDef 3 [] B_check_numbers
def B_words_due : FS := (fSeq (fExpr (eCall 2 F_check_numbers (aCons (eLst (aCons (eN 0) (aCons (eN 1) (aCons (eN 2) aNil)))) (aCons (eLst (aCons (eC (.int 1)) (aCons (eC (.int 0)) (aCons (eC (.int 1)) aNil)))) aNil)))) (fSeq (fAsg (gN 3) (eBin addD (eC (.int 1)) (eBin divD (eN 1) (eC (.int 2))))) (fSeq (fAsg (gN 4) (eCallB maxD (aIo 2 (aCons (eCallB minD (aCons (eBin divD (eBin addD (eN 0) (eC (.int 1))) (eC (.int 2))) (aCons (eCallB maxD (aCons (eC (.int 2)) (aIo 3 aNil))) aNil))) aNil)))) (fSeq (fIf (tTst (eBin eqD (eN 0) (eC (.int 1)))) (fRet (eTup (aCons (eN 4) (aCons (eC .non) aNil)))) fNext) (fRet (eTup (aCons (eN 4) (aCons (eCallB maxD (aCons (eC (.int 2)) (aCons (eCallB minD (aCons (eBin divD (eN 0) (eC (.int 2))) (aIo 3 aNil))) aNil))) aNil))))))))
def F_words_due : List D → CR := fDef 5 [] B_words_due
def B_session_end : FS := (fSeq (fExpr (eCall 2 F_check_numbers (aCons (eLst (aCons (eN 0) (aCons (eN 1) (aCons (eN 2) aNil)))) (aCons (eLst (aCons (eC (.int 0)) (aCons (eC (.int 1)) (aCons (eC (.int 0)) aNil)))) aNil)))) (fSeq (fAsg (gN 3) (eBin subD (eN 0) (eBin mulD (eC (.int 2)) (eBin divD (eN 0) (eC (.int 2)))))) (fRet (eBin addD (eN 0) (eCallB maxD (aCons (eC (.int 0)) (aCons (eBin subD (eBin subD (eN 1) (eBin mulD (eC (.int 2)) (eN 2))) (eN 3)) aNil)))))))
def F_session_end : List D → CR := fDef 4 [] B_session_end
def B_choices : FS := (fSeq (fAsg (gN 2) (eC (.int 0))) (fSeq (fAsg (gN 3) (eC (.int 1))) (fSeq (fFor (iRng1 (aCons (eBin addD (eCallB minD (aIo 0 (aIo 1 aNil))) (eC (.int 1))) aNil)) (gN 4) (fSeq (fAug 2 addID (eN 3)) (fAsg (gN 3) (eBin divD (eBin mulD (eN 3) (eBin subD (eN 0) (eN 4))) (eBin addD (eN 4) (eC (.int 1))))))) (fRetV 2))))
def F_choices : List D → CR := fDef 5 [] B_choices
def B_budget_due : FS := (fSeq (fExpr (eCall 2 F_check_numbers (aCons (eLst (aCons (eN 0) aNil)) (aCons (eLst (aCons (eC (.int 0)) aNil)) aNil)))) (fRet (eCallB maxD (aCons (eLc [1] (iRng1 (aCons (eBin addD (eN 0) (eC (.int 1))) aNil)) (gN 1) tYesF (eCall 2 F_choices (aCons (eBin addD (eN 1) (eC (.int 1))) (aCons (eBin subD (eN 0) (eN 1)) aNil)))) aNil))))
def F_budget_due : List D → CR := fDef 2 [] B_budget_due
def B_law_e_refusals : FS := (fSeq (fAsg (gN 4) (eLst aNil)) (fSeq (fAsg (gN 5) (eBin subD (eUn negD (eC (.int 1))) (eCall 2 F_law_pick (aIo 0 (aCons (eC (.int 9)) aNil))))) (fSeq (fAsg (gN 6) (eLst (aCons (eTup (aCons (eC (.int 0)) (aCons (eLst (aCons (eBin addD (eN 5) (eC (.int 1))) (aCons (eN 2) (aCons (eN 3) aNil)))) aNil))) (aCons (eTup (aCons (eC (.int 0)) (aCons (eLst (aCons (eN 1) (aCons (eN 5) (aCons (eN 3) aNil)))) aNil))) (aCons (eTup (aCons (eC (.int 0)) (aCons (eLst (aCons (eN 1) (aCons (eN 2) (aCons (eBin addD (eN 5) (eC (.int 1))) aNil)))) aNil))) (aCons (eTup (aCons (eC (.int 1)) (aCons (eLst (aCons (eN 5) (aCons (eN 1) (aCons (eN 2) aNil)))) aNil))) (aCons (eTup (aCons (eC (.int 1)) (aCons (eLst (aCons (eN 2) (aCons (eBin addD (eN 5) (eC (.int 1))) (aCons (eN 3) aNil)))) aNil))) (aCons (eTup (aCons (eC (.int 1)) (aCons (eLst (aCons (eN 2) (aCons (eN 1) (aCons (eN 5) aNil)))) aNil))) (aCons (eTup (aCons (eC (.int 2)) (aCons (eLst (aCons (eN 5) aNil)) aNil))) aNil))))))))) (fSeq (fFor (iE (eN 6)) (gT 2 (gsCons (gN 7) (gsCons (gN 8) gsNil))) (fTryAs 9 isA_BadRow (fIf (tTst (eBin eqD (eN 7) (eC (.int 0)))) (fExpr (eAppN 4 (eCall 3 F_words_due (aCons (eIxN 8 (eC (.int 0))) (aCons (eIxN 8 (eC (.int 1))) (aCons (eIxN 8 (eC (.int 2))) aNil)))))) (fIf (tTst (eBin eqD (eN 7) (eC (.int 1)))) (fExpr (eAppN 4 (eCall 3 F_session_end (aCons (eIxN 8 (eC (.int 0))) (aCons (eIxN 8 (eC (.int 1))) (aCons (eIxN 8 (eC (.int 2))) aNil)))))) (fExpr (eAppN 4 (eCall 1 F_budget_due (aCons (eIxN 8 (eC (.int 0))) aNil)))))) (fExpr (eAppN 4 (eXf "BadRow" "what"))))) (fRet (eBin eqD (eN 4) (eLc [10] (iE (eN 6)) (gN 10) tYesF (eC (.str "numbers")))))))))
def F_law_e_refusals : List D → CR := fDef 11 [0] B_law_e_refusals
def B_law_e_budget : FS := (fSeq (fAsg (gN 1) (eLst (aCons (eC (.int 1)) (aCons (eC (.int 1)) aNil)))) (fSeq (fAsg (gN 2) (eC (.int 0))) (fSeq (fFor (iRng1 (aCons (eBin addD (eN 0) (eC (.int 1))) aNil)) (gN 3) (fSeq (fAsg (gN 2) (eCallB maxD (aIo 2 (aCons (eCallB sumD (aCons (eLc [4] (iRng1 (aCons (eCallB lenD (aIo 1 aNil)) aNil)) (gN 4) (tTst (eBin leD (eBin addD (eN 4) (eN 3)) (eN 0))) (eIxN 1 (eN 4))) aNil)) aNil)))) (fAsg (gN 1) (eBin addD (eBin addD (eLst (aCons (eC (.int 1)) aNil)) (eLc [4] (iRng1 (aCons (eBin subD (eCallB lenD (aIo 1 aNil)) (eC (.int 1))) aNil)) (gN 4) tYesF (eBin addD (eIxN 1 (eN 4)) (eIxN 1 (eBin addD (eN 4) (eC (.int 1))))))) (eLst (aCons (eC (.int 1)) aNil)))))) (fRetV 2))))
def F_law_e_budget : List D → CR := fDef 5 [] B_law_e_budget
def B_law_e_words : FS := (fSeq (fAsg (gN 3) (eBin divD (eBin addD (eN 0) (eC (.int 1))) (eC (.int 2)))) (fSeq (fAsg (gN 4) (eBin divD (eN 0) (eC (.int 2)))) (fSeq (fAsg (gN 5) (eBin addD (eBin divD (eN 1) (eC (.int 2))) (eC (.int 1)))) (fSeq (fAsg (gN 6) (eIf (tTst (eBin gtD (eN 5) (eC (.int 2)))) (eN 5) (eC (.int 2)))) (fSeq (fAsg (gN 6) (eIf (tTst (eBin ltD (eN 3) (eN 6))) (eN 3) (eN 6))) (fSeq (fAsg (gN 7) (eIf (tTst (eBin ltD (eN 5) (eN 4))) (eN 5) (eN 4))) (fRet (eTup (aCons (eIf (tTst (eBin gtD (eN 2) (eN 6))) (eN 2) (eN 6)) (aCons (eIf (tTst (eBin eqD (eN 4) (eC (.int 0)))) (eC .non) (eIf (tTst (eBin gtD (eN 7) (eC (.int 2)))) (eN 7) (eC (.int 2)))) aNil))))))))))
def F_law_e_words : List D → CR := fDef 8 [] B_law_e_words
def B_law : FS := (fSeq (fAsg (gN 1) (eCall 2 F_law_source (aCons (eN 0) (aCons (eC (.int 0)) aNil)))) (fSeq (fAsg (gN 2) (eIf (tTst (eBin eqD (eCall 2 F_law_pick (aIo 1 (aCons (eC (.int 2)) aNil))) (eC (.int 0)))) (eBin addD (eC (.int 1)) (eCall 2 F_law_pick (aIo 1 (aCons (eC (.int 12)) aNil)))) (eBin addD (eC (.int 1)) (eCall 2 F_law_pick (aIo 1 (aCons (eC (.int 99999)) aNil)))))) (fSeq (fAsg (gN 3) (eCall 2 F_law_e_number (aIo 1 (aCons (eN 2) aNil)))) (fSeq (fAsg (gN 4) (eBin addD (eC (.int 1)) (eCall 2 F_law_e_number (aIo 1 (aCons (eBin divD (eN 3) (eC (.int 2))) aNil))))) (fSeq (fFor (iE (eLst (aCons (eN 2) (aCons (eCallB maxD (aCons (eC (.int 1)) (aCons (eBin subD (eN 2) (eC (.int 1))) aNil))) (aCons (eBin addD (eN 2) (eC (.int 1))) (aCons (eC (.int 1)) (aCons (eC (.int 2)) aNil))))))) (gN 5) (fFor (iE (eLst (aCons (eN 3) (aCons (eBin addD (eN 3) (eC (.int 1))) (aCons (eCallB maxD (aCons (eC (.int 0)) (aCons (eBin subD (eN 3) (eC (.int 1))) aNil))) (aCons (eC (.int 0)) aNil)))))) (gN 11) (fFor (iE (eLst (aCons (eN 4) (aCons (eC (.int 1)) aNil)))) (gN 13) (fIf (tNt (tTst (eCall 2 (F_law_same 8) (aCons (eCall 3 F_words_due (aCons (eN 5) (aCons (eN 11) (aCons (eN 13) aNil)))) (aCons (eCall 3 F_law_e_words (aCons (eN 5) (aCons (eN 11) (aCons (eN 13) aNil)))) aNil))))) (fRet (eC (.bl false))) fNext)))) (fSeq (fAsg (gN 6) (eCall 2 F_law_e_number (aIo 1 (aCons (eBin divD (eN 2) (eC (.int 2))) aNil)))) (fSeq (fAsg (gN 7) (eCall 2 F_law_e_number (aIo 1 (aCons (eN 2) aNil)))) (fSeq (fFor (iE (eLst (aCons (eN 7) (aCons (eBin addD (eN 7) (eC (.int 1))) (aCons (eC (.int 0)) (aCons (eC (.int 1)) aNil)))))) (gN 8) (fFor (iE (eLst (aCons (eN 6) (aCons (eBin addD (eN 6) (eC (.int 1))) (aCons (eCallB maxD (aCons (eC (.int 0)) (aCons (eBin subD (eN 6) (eC (.int 1))) aNil))) (aCons (eC (.int 0)) aNil)))))) (gN 12) (fFor (iE (eLst (aCons (eN 2) (aCons (eBin addD (eN 2) (eC (.int 1))) aNil)))) (gN 5) (fSeq (fAsg (gN 14) (eBin subD (eBin subD (eN 5) (eBin mulD (eC (.int 2)) (eN 12))) (eBin modD (eCallB intD (aIo 8 aNil)) (eC (.int 2))))) (fIf (tNt (tTst (eCall 2 (F_law_same 8) (aCons (eCall 3 F_session_end (aCons (eN 8) (aCons (eN 5) (aCons (eN 12) aNil)))) (aCons (eBin addD (eN 8) (eIf (tTst (eBin gtD (eN 14) (eC (.int 0)))) (eN 14) (eC (.int 0)))) aNil))))) (fRet (eC (.bl false))) fNext))))) (fSeq (fAsg (gN 9) (eIf (tTst (eBin eqD (eCall 2 F_law_pick (aIo 1 (aCons (eC (.int 4)) aNil))) (eC (.int 0)))) (eCall 2 F_law_pick (aIo 1 (aCons (eC (.int 41)) aNil))) (eCall 2 F_law_pick (aIo 1 (aCons (eC (.int 12)) aNil))))) (fSeq (fFor (iE (eLst (aCons (eN 9) (aCons (eBin addD (eN 9) (eC (.int 1))) (aCons (eC (.int 0)) aNil))))) (gN 10) (fIf (tNt (tTst (eCall 2 (F_law_same 8) (aCons (eCall 1 F_budget_due (aCons (eN 10) aNil)) (aCons (eCall 1 F_law_e_budget (aCons (eN 10) aNil)) aNil))))) (fRet (eC (.bl false))) fNext)) (fRet (eCall 4 F_law_e_refusals (aIo 1 (aCons (eN 2) (aCons (eN 3) (aCons (eN 4) aNil))))))))))))))))
def F_law : List D → CR := fDef 15 [] B_law
end K24

set_option Elab.async false
set_option linter.all false
set_option maxRecDepth 100000
set_option maxHeartbeats 4000000
/-! printed by gen.py: the walk -/
namespace K24
open PySem L2 Bx Lw
abbrev topS (i : Nat) : Stmt := PySem.Challenge.pw_howeverlost_k24_words_sessions_budgets.main.body.getD i (.Pass ⟨0, 0, 0, 0⟩)
abbrev st_law_source : Stmt := topS 10
abbrev N_law_source : List Str := ["script", "at", "cell", "size", "small", "one"]
theorem sc_law_source : FnScope N_law_source ["script", "at"] (defScope st_law_source) := ⟨rfl, rfl, rfl, by decide +kernel, rfl, by decide +kernel, by decide +kernel⟩
abbrev st_law_pick : Stmt := topS 11
abbrev N_law_pick : List Str := ["source", "many", "found"]
theorem sc_law_pick : FnScope N_law_pick ["source", "many"] (defScope st_law_pick) := ⟨rfl, rfl, rfl, by decide +kernel, rfl, by decide +kernel, by decide +kernel⟩
abbrev st_law_e_number : Stmt := topS 13
abbrev N_law_e_number : List Str := ["stock", "near", "kind"]
theorem sc_law_e_number : FnScope N_law_e_number ["stock", "near"] (defScope st_law_e_number) := ⟨rfl, rfl, rfl, by decide +kernel, rfl, by decide +kernel, by decide +kernel⟩
abbrev st_check_numbers : Stmt := topS 4
abbrev N_check_numbers : List Str := ["numbers", "least", "at"]
theorem sc_check_numbers : FnScope N_check_numbers ["numbers", "least"] (defScope st_check_numbers) := ⟨rfl, rfl, rfl, by decide +kernel, rfl, by decide +kernel, by decide +kernel⟩
abbrev st_words_due : Stmt := topS 5
abbrev N_words_due : List Str := ["n", "late", "m", "back", "caller"]
theorem sc_words_due : FnScope N_words_due ["n", "late", "m"] (defScope st_words_due) := ⟨rfl, rfl, rfl, by decide +kernel, rfl, by decide +kernel, by decide +kernel⟩
abbrev st_session_end : Stmt := topS 6
abbrev N_session_end : List Str := ["step", "n", "f", "odd"]
theorem sc_session_end : FnScope N_session_end ["step", "n", "f"] (defScope st_session_end) := ⟨rfl, rfl, rfl, by decide +kernel, rfl, by decide +kernel, by decide +kernel⟩
abbrev st_choices : Stmt := topS 8
abbrev N_choices : List Str := ["many", "most", "total", "ways", "taken"]
theorem sc_choices : FnScope N_choices ["many", "most"] (defScope st_choices) := ⟨rfl, rfl, rfl, by decide +kernel, rfl, by decide +kernel, by decide +kernel⟩
abbrev st_budget_due : Stmt := topS 7
abbrev N_budget_due : List Str := ["most", "k"]
theorem sc_budget_due : FnScope N_budget_due ["most"] (defScope st_budget_due) := ⟨rfl, rfl, rfl, by decide +kernel, rfl, by decide +kernel, by decide +kernel⟩
abbrev st_law_e_refusals : Stmt := topS 16
abbrev N_law_e_refusals : List Str := ["stock", "n", "late", "m", "found", "low", "asks", "kind", "numbers", "error", "one"]
theorem sc_law_e_refusals : FnScope N_law_e_refusals ["stock", "n", "late", "m"] (defScope st_law_e_refusals) := ⟨rfl, rfl, rfl, by decide +kernel, rfl, by decide +kernel, by decide +kernel⟩
abbrev st_law_same : Stmt := topS 12
abbrev N_law_same : List Str := ["answer", "due", "pairs", "key", "one", "at"]
theorem sc_law_same : FnScope N_law_same ["answer", "due"] (defScope st_law_same) := ⟨rfl, rfl, rfl, by decide +kernel, rfl, by decide +kernel, by decide +kernel⟩
abbrev st_law_e_budget : Stmt := topS 15
abbrev N_law_e_budget : List Str := ["most", "row", "found", "k", "j"]
theorem sc_law_e_budget : FnScope N_law_e_budget ["most"] (defScope st_law_e_budget) := ⟨rfl, rfl, rfl, by decide +kernel, rfl, by decide +kernel, by decide +kernel⟩
abbrev st_law_e_words : Stmt := topS 14
abbrev N_law_e_words : List Str := ["n", "late", "m", "caller", "answerer", "back", "first", "second"]
theorem sc_law_e_words : FnScope N_law_e_words ["n", "late", "m"] (defScope st_law_e_words) := ⟨rfl, rfl, rfl, by decide +kernel, rfl, by decide +kernel, by decide +kernel⟩
abbrev st_law : Stmt := topS 17
abbrev N_law : List Str := ["script", "stock", "n", "late", "m", "turns", "f", "step", "start", "most", "budget", "lateness", "lost", "faces", "left"]
theorem sc_law : FnScope N_law ["script"] (defScope st_law) := ⟨rfl, rfl, rfl, by decide +kernel, rfl, by decide +kernel, by decide +kernel⟩
abbrev sti_BadRow : Stmt := inClass (topS 2) 0
theorem sci_BadRow : FnScope ["self", "what"] ["self", "what"] (defScope sti_BadRow) := ⟨rfl, rfl, rfl, by decide +kernel, rfl, by decide +kernel, by decide +kernel⟩
structure Ad where
  f_law_source : Addr
  d_law_source : FuncData
  f_law_pick : Addr
  d_law_pick : FuncData
  f_law_e_number : Addr
  d_law_e_number : FuncData
  f_check_numbers : Addr
  d_check_numbers : FuncData
  f_words_due : Addr
  d_words_due : FuncData
  f_session_end : Addr
  d_session_end : FuncData
  f_choices : Addr
  d_choices : FuncData
  f_budget_due : Addr
  d_budget_due : FuncData
  f_law_e_refusals : Addr
  d_law_e_refusals : FuncData
  f_law_same : Addr
  d_law_same : FuncData
  f_law_e_budget : Addr
  d_law_e_budget : FuncData
  f_law_e_words : Addr
  d_law_e_words : FuncData
  f_law : Addr
  d_law : FuncData
  c_BadRow : Addr
  fi_BadRow : Addr
  di_BadRow : FuncData
def Ad.ca (A : Ad) : Str → Addr := fun c => if c = "BadRow" then A.c_BadRow else 0
theorem Ad.ca_BadRow (A : Ad) : A.ca "BadRow" = A.c_BadRow := by
  unfold Ad.ca
  exact if_pos rfl
structure Tx (P : Program) (w : World) (K : PySem.W.Frag) (mg : Str → Option Value) (base : Heap) (A : Ad) : Prop where
  F_law_source : Fun K "_law_source" "_law_source" st_law_source A.f_law_source A.d_law_source
  b_law_source : Binds K A.d_law_source ["script", "at"] []
  m_law_source : mg "_law_source" = some (.ref A.f_law_source)
  F_law_pick : Fun K "_law_pick" "_law_pick" st_law_pick A.f_law_pick A.d_law_pick
  b_law_pick : Binds K A.d_law_pick ["source", "many"] []
  m_law_pick : mg "_law_pick" = some (.ref A.f_law_pick)
  F_law_e_number : Fun K "_law_e_number" "_law_e_number" st_law_e_number A.f_law_e_number A.d_law_e_number
  b_law_e_number : Binds K A.d_law_e_number ["stock", "near"] []
  m_law_e_number : mg "_law_e_number" = some (.ref A.f_law_e_number)
  F_check_numbers : Fun K "check_numbers" "check_numbers" st_check_numbers A.f_check_numbers A.d_check_numbers
  b_check_numbers : Binds K A.d_check_numbers ["numbers", "least"] []
  m_check_numbers : mg "check_numbers" = some (.ref A.f_check_numbers)
  F_words_due : Fun K "words_due" "words_due" st_words_due A.f_words_due A.d_words_due
  b_words_due : Binds K A.d_words_due ["n", "late", "m"] []
  m_words_due : mg "words_due" = some (.ref A.f_words_due)
  F_session_end : Fun K "session_end" "session_end" st_session_end A.f_session_end A.d_session_end
  b_session_end : Binds K A.d_session_end ["step", "n", "f"] []
  m_session_end : mg "session_end" = some (.ref A.f_session_end)
  F_choices : Fun K "choices" "choices" st_choices A.f_choices A.d_choices
  b_choices : Binds K A.d_choices ["many", "most"] []
  m_choices : mg "choices" = some (.ref A.f_choices)
  F_budget_due : Fun K "budget_due" "budget_due" st_budget_due A.f_budget_due A.d_budget_due
  b_budget_due : Binds K A.d_budget_due ["most"] []
  m_budget_due : mg "budget_due" = some (.ref A.f_budget_due)
  F_law_e_refusals : Fun K "_law_e_refusals" "_law_e_refusals" st_law_e_refusals A.f_law_e_refusals A.d_law_e_refusals
  b_law_e_refusals : Binds K A.d_law_e_refusals ["stock", "n", "late", "m"] []
  m_law_e_refusals : mg "_law_e_refusals" = some (.ref A.f_law_e_refusals)
  F_law_same : Fun K "_law_same" "_law_same" st_law_same A.f_law_same A.d_law_same
  b_law_same : Binds K A.d_law_same ["answer", "due"] []
  m_law_same : mg "_law_same" = some (.ref A.f_law_same)
  F_law_e_budget : Fun K "_law_e_budget" "_law_e_budget" st_law_e_budget A.f_law_e_budget A.d_law_e_budget
  b_law_e_budget : Binds K A.d_law_e_budget ["most"] []
  m_law_e_budget : mg "_law_e_budget" = some (.ref A.f_law_e_budget)
  F_law_e_words : Fun K "_law_e_words" "_law_e_words" st_law_e_words A.f_law_e_words A.d_law_e_words
  b_law_e_words : Binds K A.d_law_e_words ["n", "late", "m"] []
  m_law_e_words : mg "_law_e_words" = some (.ref A.f_law_e_words)
  F_law : Fun K "law" "law" st_law A.f_law A.d_law
  b_law : Binds K A.d_law ["script"] []
  m_law : mg "law" = some (.ref A.f_law)
  z_abs : mg "abs" = none
  z_all : mg "all" = none
  z_dict : mg "dict" = none
  z_int : mg "int" = none
  z_isinstance : mg "isinstance" = none
  z_len : mg "len" = none
  z_list : mg "list" = none
  z_max : mg "max" = none
  z_min : mg "min" = none
  z_range : mg "range" = none
  z_repr : mg "repr" = none
  z_str : mg "str" = none
  z_sum : mg "sum" = none
  z_tuple : mg "tuple" = none
  g_BadRow : mg "BadRow" = some (.ref A.c_BadRow)
  o_BadRow : OexC K A.c_BadRow
  x_BadRow : XfC K A.c_BadRow
  e_BadRow : PySem.W.exmOne K (.ref A.c_BadRow) (.ref A.c_BadRow) = some true
  iC_BadRow : PySem.W.findIn K (.ref A.c_BadRow) "__init__" = some (some (.ref A.fi_BadRow))
  tI_BadRow : PySem.W.typeIn K (.ref A.fi_BadRow) = some (.type "function")
  Fi_BadRow : Fun K "__init__" "BadRow.__init__" sti_BadRow A.fi_BadRow A.di_BadRow
  bi_BadRow : Binds K A.di_BadRow ["self", "what"] []
  n_BadRow_what : PySem.W.findIn K (.ref A.c_BadRow) "what" = some none
theorem bt_abs : bootBuiltins "abs" = some (.builtin "abs") := by decide +kernel
theorem bt_all : bootBuiltins "all" = some (.builtin "all") := by decide +kernel
theorem bt_dict : bootBuiltins "dict" = some (.type "dict") := by decide +kernel
theorem bt_int : bootBuiltins "int" = some (.type "int") := by decide +kernel
theorem bt_isinstance : bootBuiltins "isinstance" = some (.builtin "isinstance") := by decide +kernel
theorem bt_len : bootBuiltins "len" = some (.builtin "len") := by decide +kernel
theorem bt_list : bootBuiltins "list" = some (.type "list") := by decide +kernel
theorem bt_max : bootBuiltins "max" = some (.builtin "max") := by decide +kernel
theorem bt_min : bootBuiltins "min" = some (.builtin "min") := by decide +kernel
theorem bt_range : bootBuiltins "range" = some (.type "range") := by decide +kernel
theorem bt_repr : bootBuiltins "repr" = some (.builtin "repr") := by decide +kernel
theorem bt_str : bootBuiltins "str" = some (.type "str") := by decide +kernel
theorem bt_sum : bootBuiltins "sum" = some (.builtin "sum") := by decide +kernel
theorem bt_tuple : bootBuiltins "tuple" = some (.type "tuple") := by decide +kernel
section
variable {P : Program} {w : World} {K : PySem.W.Frag} {mg : Str → Option Value} {base : Heap} {A : Ad}
theorem isA_BadRow_ok (T : Tx P w K mg base A) : ∀ c' b, isA_BadRow c' = some b → PySem.W.exmOne K (.ref (A.ca c')) (.ref A.c_BadRow) = some b := fun c' b h => by
  unfold isA_BadRow at h
  split at h
  · rename_i e
    subst e
    cases h
    rw [A.ca_BadRow]
    exact T.e_BadRow
  · cases h
theorem oki_BadRow (T : Tx P w K mg base A) : FnOk P w K mg base (L2.CX P w) 1 A.fi_BadRow A.di_BadRow ["self", "what"] (spXi A.c_BadRow ["what"]) :=
  T.Fi_BadRow.okX sci_BadRow (fun vs H Q E h => by obtain ⟨a, xs, rfl, hl, _⟩ := h; rw [List.length_cons, hl]; rfl) (fun cdv A' outer s H vs Q E hr h => ⟨_, (pss_one (ps_ost (pv 0) (pv 1))), xi1 T.o_BadRow T.n_BadRow_what h _⟩)
theorem ok_law_source (T : Tx P w K mg base A) : FnOk P w K mg base (L2.CX P w) 1 A.f_law_source A.d_law_source ["script", "at"] (spD ⟨K, A.ca⟩ 2 F_law_source) :=
  def_ok (ca := A.ca) T.F_law_source sc_law_source (by decide) fun cdv A' outer s H vs E hr => by
    exact (bss_cons (bs_set (i := 2) sc_law_source.nd rfl (by first | exact Or.inl rfl | exact Or.inr rfl) (npin_of (by decide)) (be_if (bt_cmp op_lt ltS (nomark _) (be_name (pv 1)) (be_callB (pcB call_len rfl T.z_len bt_len (by decide) rfl rfl rfl) lenS (ba_io (pv 0) ba_nil rfl))) (be_callB (pcT call_int1 rfl T.z_int bt_int (by decide) rfl rfl rfl) intS (ba_cons (be_ixN (hu_of hr) rfl (pv 0) (be_name (pv 1)) fun _ _ => rfl) ba_nil rfl)) (be_bin op_addA addS (be_bin op_mulW mulS be_int (be_callB (pcB (cr_sum rfl) rfl T.z_sum bt_sum (by decide) rfl rfl rfl) sumS (ba_cons (be_lc (own := [("one", 5)]) rfl sc_law_source.nd (bi_E rfl (be_sl rfl (be_name (pv 0)) bp_none (bp_some be_int))) (blkOk_by (N := N_law_source) (sc := defScope st_law_source) (by decide +kernel)) (by decide) (npins_of (by decide)) (fun _ _ _ _ _ => (bg_name (pg_name (i := 5) sc_law_source.nd rfl (by first | exact Or.inl rfl | exact Or.inr rfl)) (npin_of (by decide)))) (fun _ _ _ _ _ => bts_nil) (fun _ _ _ _ _ => (be_bin op_mod modS (be_callB (pcT call_int1 rfl T.z_int bt_int (by decide) rfl rfl rfl) intS (ba_io (pv 5) ba_nil rfl)) be_int)) fun _ => rfl) ba_nil rfl))) be_int)) rfl (by first | exact Or.inl rfl | exact Or.inr rfl))
      (bss_cons (bs_set (i := 3) sc_law_source.nd rfl (by first | exact Or.inl rfl | exact Or.inr rfl) (npin_of (by decide)) (be_bin op_mod modS (be_callB (pcB call_abs rfl T.z_abs bt_abs (by decide) rfl rfl rfl) absS (ba_io (pv 2) ba_nil rfl)) (be_bin op_mulW mulS (be_bin op_pow powS be_int be_int) (be_bin op_pow powS be_int be_int))) rfl (by first | exact Or.inl rfl | exact Or.inr rfl))
      (bss_cons (bs_set (i := 4) sc_law_source.nd rfl (by first | exact Or.inl rfl | exact Or.inr rfl) (npin_of (by decide)) (be_bin op_mod modS (be_callB (pcT call_int1 rfl T.z_int bt_int (by decide) rfl rfl rfl) intS (ba_cons (be_bin op_addA addS (be_bin op_addA addS (be_bin op_addA addS (be_bin op_mulW mulS be_int (be_name (pv 3))) (be_if (bt_cmp op_lt ltS (nomark _) (be_name (pv 2)) be_int) be_int be_int)) (be_bin op_mulW mulS (be_name (pv 1)) be_int)) be_int) ba_nil rfl)) be_int) rfl (by first | exact Or.inl rfl | exact Or.inr rfl))
      (bss_one (bs_ret (be_lst (ba_cons (be_if (bt_cmp op_ge geS (nomark _) (be_name (pv 3)) (be_bin op_pow powS be_int be_int)) (be_name (pv 3)) be_int) (ba_cons (be_bin op_mod modS (be_callB (pcT call_int1 rfl T.z_int bt_int (by decide) rfl rfl rfl) intS (ba_cons (be_bin op_mulW mulS (be_bin op_addA addS (be_name (pv 4)) be_int) (be_bin op_addA addS (be_name (pv 4)) be_int)) ba_nil rfl)) be_int) (ba_cons (be_name (pv 1)) ba_nil rfl) rfl) rfl)))))))
theorem ok_law_pick (T : Tx P w K mg base A) : FnOk P w K mg base (L2.CX P w) 1 A.f_law_pick A.d_law_pick ["source", "many"] (spD ⟨K, A.ca⟩ 2 F_law_pick) :=
  def_ok (ca := A.ca) T.F_law_pick sc_law_pick (by decide) fun cdv A' outer s H vs E hr => by
    exact (bss_cons (bs_if (bt_cmp op_gt gtS (nomark _) (be_ixN (hu_of hr) rfl (pv 0) be_int fun _ _ => rfl) be_int) (bss_cons (bs_set (i := 2) sc_law_pick.nd rfl (by first | exact Or.inl rfl | exact Or.inr rfl) (npin_of (by decide)) (be_bin op_mod modS (be_callB (pcT call_int1 rfl T.z_int bt_int (by decide) rfl rfl rfl) intS (ba_cons (be_ixN (hu_of hr) rfl (pv 0) be_int fun _ _ => rfl) ba_nil rfl)) (be_name (pv 1))) rfl (by first | exact Or.inl rfl | exact Or.inr rfl))
      (bss_cons (bs_setN (psSub (hu_of hr) (pv 0) (fun _ => rfl) rfl rfl rfl) (be_bin op_fdivW divS (be_ixN (hu_of hr) rfl (pv 0) be_int fun _ _ => rfl) (be_name (pv 1))) be_int)
      (bss_one (bs_retV (pv 2))))) bss_nil)
      (bss_cons (bs_augN rfl (pv 0) be_int iop_add addIS be_int fun _ _ _ => rfl)
      (bss_cons (bs_setN (psSub (hu_of hr) (pv 0) (fun _ => rfl) rfl rfl rfl) (be_bin op_mod modS (be_callB (pcT call_int1 rfl T.z_int bt_int (by decide) rfl rfl rfl) intS (ba_cons (be_bin op_addA addS (be_bin op_mulW mulS (be_ixN (hu_of hr) rfl (pv 0) be_int fun _ _ => rfl) be_int) (be_bin op_mulW mulS (be_ixN (hu_of hr) rfl (pv 0) be_int fun _ _ => rfl) be_int)) ba_nil rfl)) be_int) be_int)
      (bss_one (bs_ret (be_bin op_mod modS (be_bin op_fdivW divS (be_bin op_mod modS (be_callB (pcT call_int1 rfl T.z_int bt_int (by decide) rfl rfl rfl) intS (ba_cons (be_bin op_addA addS (be_bin op_mulW mulS (be_ixN (hu_of hr) rfl (pv 0) be_int fun _ _ => rfl) be_int) (be_bin op_mulW mulS (be_ixN (hu_of hr) rfl (pv 0) be_int fun _ _ => rfl) be_int)) ba_nil rfl)) be_int) be_int) (be_name (pv 1))))))))
theorem ok_law_e_number (T : Tx P w K mg base A) : FnOk P w K mg base (L2.CX P w) 2 A.f_law_e_number A.d_law_e_number ["stock", "near"] (spD ⟨K, A.ca⟩ 2 F_law_e_number) :=
  def_ok (ca := A.ca) T.F_law_e_number sc_law_e_number (by decide) fun cdv A' outer s H vs E hr => by
    exact (bss_cons (bs_set (i := 2) sc_law_e_number.nd rfl (by first | exact Or.inl rfl | exact Or.inr rfl) (npin_of (by decide)) (be_call (ok_law_pick T) (hr.mono (by decide)) rfl T.m_law_pick T.F_law_pick.kp T.b_law_pick (takes_of rfl rfl rfl rfl) (ba_io (pv 0) (ba_cons be_int ba_nil rfl) rfl) rfl rfl rfl) rfl (by first | exact Or.inl rfl | exact Or.inr rfl))
      (bss_cons (bs_if (bt_cmp (op_eqD hr.units) eqS (nomark _) (be_name (pv 2)) be_int) (bss_one (bs_ret (be_call (ok_law_pick T) (hr.mono (by decide)) rfl T.m_law_pick T.F_law_pick.kp T.b_law_pick (takes_of rfl rfl rfl rfl) (ba_io (pv 0) (ba_cons be_int ba_nil rfl) rfl) rfl rfl rfl))) bss_nil)
      (bss_cons (bs_if (bt_cmp (op_eqD hr.units) eqS (nomark _) (be_name (pv 2)) be_int) (bss_one (bs_ret (be_callB (pcB (call_maxA rfl) rfl T.z_max bt_max (by decide) rfl rfl rfl) maxS (ba_cons be_int (ba_cons (be_callB (pcB (call_minA rfl) rfl T.z_min bt_min (by decide) rfl rfl rfl) minS (ba_cons be_int (ba_cons (be_bin op_sub subS (be_bin op_addA addS (be_name (pv 1)) (be_call (ok_law_pick T) (hr.mono (by decide)) rfl T.m_law_pick T.F_law_pick.kp T.b_law_pick (takes_of rfl rfl rfl rfl) (ba_io (pv 0) (ba_cons be_int ba_nil rfl) rfl) rfl rfl rfl)) be_int) ba_nil rfl) rfl)) ba_nil rfl) rfl)))) bss_nil)
      (bss_one (bs_ret (be_call (ok_law_pick T) (hr.mono (by decide)) rfl T.m_law_pick T.F_law_pick.kp T.b_law_pick (takes_of rfl rfl rfl rfl) (ba_io (pv 0) (ba_cons be_int ba_nil rfl) rfl) rfl rfl rfl))))))
theorem ok_check_numbers (T : Tx P w K mg base A) : FnOk P w K mg base (L2.CX P w) 4 A.f_check_numbers A.d_check_numbers ["numbers", "least"] (spD ⟨K, A.ca⟩ 2 F_check_numbers) :=
  def_ok (ca := A.ca) T.F_check_numbers sc_check_numbers (by decide) fun cdv A' outer s H vs E hr => by
    exact (bss_one (bs_for (passes_of rfl) rfl (bi_rng1 rfl T.z_range (ba_cons (be_callB (pcB call_len rfl T.z_len bt_len (by decide) rfl rfl rfl) lenS (ba_io (pv 0) ba_nil rfl)) ba_nil rfl) rfl) (bg_name (pg_name (i := 2) sc_check_numbers.nd rfl (by first | exact Or.inl rfl | exact Or.inr rfl)) (npin_of (by decide))) (bss_one (bs_if (bt_cmp op_lt ltS (nomark _) (be_ixN (hu_of hr) rfl (pv 0) (be_name (pv 2)) fun _ _ => rfl) (be_ixN (hu_of hr) rfl (pv 1) (be_name (pv 2)) fun _ _ => rfl)) (bss_one (bs_raise rfl (takes_of rfl rfl rfl rfl) (A.ca_BadRow) T.o_BadRow T.iC_BadRow T.tI_BadRow (oki_BadRow T) (hr.mono (by decide)) T.bi_BadRow rfl T.g_BadRow (ba_cons be_str ba_nil rfl) rfl rfl rfl)) bss_nil)) fun _ => rfl))
theorem ok_words_due (T : Tx P w K mg base A) : FnOk P w K mg base (L2.CX P w) 5 A.f_words_due A.d_words_due ["n", "late", "m"] (spD ⟨K, A.ca⟩ 3 F_words_due) :=
  def_ok (ca := A.ca) T.F_words_due sc_words_due (by decide) fun cdv A' outer s H vs E hr => by
    exact (bss_cons (bs_expr (be_call (ok_check_numbers T) (hr.mono (by decide)) rfl T.m_check_numbers T.F_check_numbers.kp T.b_check_numbers (takes_of rfl rfl rfl rfl) (ba_cons (be_lst (ba_cons (be_name (pv 0)) (ba_cons (be_name (pv 1)) (ba_cons (be_name (pv 2)) ba_nil rfl) rfl) rfl)) (ba_cons (be_lst (ba_cons be_int (ba_cons be_int (ba_cons be_int ba_nil rfl) rfl) rfl)) ba_nil rfl) rfl) rfl rfl rfl) rfl)
      (bss_cons (bs_set (i := 3) sc_words_due.nd rfl (by first | exact Or.inl rfl | exact Or.inr rfl) (npin_of (by decide)) (be_bin op_addA addS be_int (be_bin op_fdivW divS (be_name (pv 1)) be_int)) rfl (by first | exact Or.inl rfl | exact Or.inr rfl))
      (bss_cons (bs_set (i := 4) sc_words_due.nd rfl (by first | exact Or.inl rfl | exact Or.inr rfl) (npin_of (by decide)) (be_callB (pcB (call_maxA rfl) rfl T.z_max bt_max (by decide) rfl rfl rfl) maxS (ba_io (pv 2) (ba_cons (be_callB (pcB (call_minA rfl) rfl T.z_min bt_min (by decide) rfl rfl rfl) minS (ba_cons (be_bin op_fdivW divS (be_bin op_addA addS (be_name (pv 0)) be_int) be_int) (ba_cons (be_callB (pcB (call_maxA rfl) rfl T.z_max bt_max (by decide) rfl rfl rfl) maxS (ba_cons be_int (ba_io (pv 3) ba_nil rfl) rfl)) ba_nil rfl) rfl)) ba_nil rfl) rfl)) rfl (by first | exact Or.inl rfl | exact Or.inr rfl))
      (bss_cons (bs_if (bt_cmp (op_eqD hr.units) eqS (nomark _) (be_name (pv 0)) be_int) (bss_one (bs_ret (be_tup (ba_cons (be_name (pv 4)) (ba_cons be_non ba_nil rfl) rfl)))) bss_nil)
      (bss_one (bs_ret (be_tup (ba_cons (be_name (pv 4)) (ba_cons (be_callB (pcB (call_maxA rfl) rfl T.z_max bt_max (by decide) rfl rfl rfl) maxS (ba_cons be_int (ba_cons (be_callB (pcB (call_minA rfl) rfl T.z_min bt_min (by decide) rfl rfl rfl) minS (ba_cons (be_bin op_fdivW divS (be_name (pv 0)) be_int) (ba_io (pv 3) ba_nil rfl) rfl)) ba_nil rfl) rfl)) ba_nil rfl) rfl))))))))
theorem ok_session_end (T : Tx P w K mg base A) : FnOk P w K mg base (L2.CX P w) 5 A.f_session_end A.d_session_end ["step", "n", "f"] (spD ⟨K, A.ca⟩ 3 F_session_end) :=
  def_ok (ca := A.ca) T.F_session_end sc_session_end (by decide) fun cdv A' outer s H vs E hr => by
    exact (bss_cons (bs_expr (be_call (ok_check_numbers T) (hr.mono (by decide)) rfl T.m_check_numbers T.F_check_numbers.kp T.b_check_numbers (takes_of rfl rfl rfl rfl) (ba_cons (be_lst (ba_cons (be_name (pv 0)) (ba_cons (be_name (pv 1)) (ba_cons (be_name (pv 2)) ba_nil rfl) rfl) rfl)) (ba_cons (be_lst (ba_cons be_int (ba_cons be_int (ba_cons be_int ba_nil rfl) rfl) rfl)) ba_nil rfl) rfl) rfl rfl rfl) rfl)
      (bss_cons (bs_set (i := 3) sc_session_end.nd rfl (by first | exact Or.inl rfl | exact Or.inr rfl) (npin_of (by decide)) (be_bin op_sub subS (be_name (pv 0)) (be_bin op_mulW mulS be_int (be_bin op_fdivW divS (be_name (pv 0)) be_int))) rfl (by first | exact Or.inl rfl | exact Or.inr rfl))
      (bss_one (bs_ret (be_bin op_addA addS (be_name (pv 0)) (be_callB (pcB (call_maxA rfl) rfl T.z_max bt_max (by decide) rfl rfl rfl) maxS (ba_cons be_int (ba_cons (be_bin op_sub subS (be_bin op_sub subS (be_name (pv 1)) (be_bin op_mulW mulS be_int (be_name (pv 2)))) (be_name (pv 3))) ba_nil rfl) rfl)))))))
theorem ok_choices (T : Tx P w K mg base A) : FnOk P w K mg base (L2.CX P w) 1 A.f_choices A.d_choices ["many", "most"] (spD ⟨K, A.ca⟩ 2 F_choices) :=
  def_ok (ca := A.ca) T.F_choices sc_choices (by decide) fun cdv A' outer s H vs E hr => by
    exact (bss_cons (bs_set (i := 2) sc_choices.nd rfl (by first | exact Or.inl rfl | exact Or.inr rfl) (npin_of (by decide)) be_int rfl (by first | exact Or.inl rfl | exact Or.inr rfl))
      (bss_cons (bs_set (i := 3) sc_choices.nd rfl (by first | exact Or.inl rfl | exact Or.inr rfl) (npin_of (by decide)) be_int rfl (by first | exact Or.inl rfl | exact Or.inr rfl))
      (bss_cons (bs_for (passes_of rfl) rfl (bi_rng1 rfl T.z_range (ba_cons (be_bin op_addA addS (be_callB (pcB (call_minA rfl) rfl T.z_min bt_min (by decide) rfl rfl rfl) minS (ba_io (pv 0) (ba_io (pv 1) ba_nil rfl) rfl)) be_int) ba_nil rfl) rfl) (bg_name (pg_name (i := 4) sc_choices.nd rfl (by first | exact Or.inl rfl | exact Or.inr rfl)) (npin_of (by decide))) (bss_cons (bs_aug (i := 2) sc_choices.nd rfl (by first | exact Or.inl rfl | exact Or.inr rfl) (npin_of (by decide)) iop_add addIS (be_name (pv 3)) (by first | exact Or.inl rfl | exact Or.inr rfl))
      (bss_one (bs_set (i := 3) sc_choices.nd rfl (by first | exact Or.inl rfl | exact Or.inr rfl) (npin_of (by decide)) (be_bin op_fdivW divS (be_bin op_mulW mulS (be_name (pv 3)) (be_bin op_sub subS (be_name (pv 0)) (be_name (pv 4)))) (be_bin op_addA addS (be_name (pv 4)) be_int)) rfl (by first | exact Or.inl rfl | exact Or.inr rfl)))) fun _ => rfl)
      (bss_one (bs_retV (pv 2))))))
theorem ok_budget_due (T : Tx P w K mg base A) : FnOk P w K mg base (L2.CX P w) 5 A.f_budget_due A.d_budget_due ["most"] (spD ⟨K, A.ca⟩ 1 F_budget_due) :=
  def_ok (ca := A.ca) T.F_budget_due sc_budget_due (by decide) fun cdv A' outer s H vs E hr => by
    exact (bss_cons (bs_expr (be_call (ok_check_numbers T) (hr.mono (by decide)) rfl T.m_check_numbers T.F_check_numbers.kp T.b_check_numbers (takes_of rfl rfl rfl rfl) (ba_cons (be_lst (ba_cons (be_name (pv 0)) ba_nil rfl)) (ba_cons (be_lst (ba_cons be_int ba_nil rfl)) ba_nil rfl) rfl) rfl rfl rfl) rfl)
      (bss_one (bs_ret (be_callB (pcB (call_maxA rfl) rfl T.z_max bt_max (by decide) rfl rfl rfl) maxS (ba_cons (be_lc (own := [("k", 1)]) rfl sc_budget_due.nd (bi_rng1 rfl T.z_range (ba_cons (be_bin op_addA addS (be_name (pv 0)) be_int) ba_nil rfl) rfl) (blkOk_by (N := N_budget_due) (sc := defScope st_budget_due) (by decide +kernel)) (by decide) (npins_of (by decide)) (fun _ _ _ _ _ => (bg_name (pg_name (i := 1) sc_budget_due.nd rfl (by first | exact Or.inl rfl | exact Or.inr rfl)) (npin_of (by decide)))) (fun _ _ _ _ _ => bts_nil) (fun _ _ _ _ _ => (be_call (ok_choices T) (hr.mono (by decide)) rfl T.m_choices T.F_choices.kp T.b_choices takes0 (ba_cons (be_bin op_addA addS (be_name (pv 1)) be_int) (ba_cons (be_bin op_sub subS (be_name (pv 0)) (be_name (pv 1))) ba_nil rfl) rfl) rfl rfl rfl)) fun _ => rfl) ba_nil rfl)))))
theorem ok_law_e_refusals (T : Tx P w K mg base A) : FnOk P w K mg base (L2.CX P w) 6 A.f_law_e_refusals A.d_law_e_refusals ["stock", "n", "late", "m"] (spD ⟨K, A.ca⟩ 4 F_law_e_refusals) :=
  def_ok (ca := A.ca) T.F_law_e_refusals sc_law_e_refusals (by decide) fun cdv A' outer s H vs E hr => by
    exact (bss_cons (bs_set (i := 4) sc_law_e_refusals.nd rfl (by first | exact Or.inl rfl | exact Or.inr rfl) (npin_of (by decide)) (be_lst ba_nil) rfl (by first | exact Or.inl rfl | exact Or.inr rfl))
      (bss_cons (bs_set (i := 5) sc_law_e_refusals.nd rfl (by first | exact Or.inl rfl | exact Or.inr rfl) (npin_of (by decide)) (be_bin op_sub subS (be_un un_neg negS be_int) (be_call (ok_law_pick T) (hr.mono (by decide)) rfl T.m_law_pick T.F_law_pick.kp T.b_law_pick (takes_of rfl rfl rfl rfl) (ba_io (pv 0) (ba_cons be_int ba_nil rfl) rfl) rfl rfl rfl)) rfl (by first | exact Or.inl rfl | exact Or.inr rfl))
      (bss_cons (bs_set (i := 6) sc_law_e_refusals.nd rfl (by first | exact Or.inl rfl | exact Or.inr rfl) (npin_of (by decide)) (be_lst (ba_cons (be_tup (ba_cons be_int (ba_cons (be_lst (ba_cons (be_bin op_addA addS (be_name (pv 5)) be_int) (ba_cons (be_name (pv 2)) (ba_cons (be_name (pv 3)) ba_nil rfl) rfl) rfl)) ba_nil rfl) rfl)) (ba_cons (be_tup (ba_cons be_int (ba_cons (be_lst (ba_cons (be_name (pv 1)) (ba_cons (be_name (pv 5)) (ba_cons (be_name (pv 3)) ba_nil rfl) rfl) rfl)) ba_nil rfl) rfl)) (ba_cons (be_tup (ba_cons be_int (ba_cons (be_lst (ba_cons (be_name (pv 1)) (ba_cons (be_name (pv 2)) (ba_cons (be_bin op_addA addS (be_name (pv 5)) be_int) ba_nil rfl) rfl) rfl)) ba_nil rfl) rfl)) (ba_cons (be_tup (ba_cons be_int (ba_cons (be_lst (ba_cons (be_name (pv 5)) (ba_cons (be_name (pv 1)) (ba_cons (be_name (pv 2)) ba_nil rfl) rfl) rfl)) ba_nil rfl) rfl)) (ba_cons (be_tup (ba_cons be_int (ba_cons (be_lst (ba_cons (be_name (pv 2)) (ba_cons (be_bin op_addA addS (be_name (pv 5)) be_int) (ba_cons (be_name (pv 3)) ba_nil rfl) rfl) rfl)) ba_nil rfl) rfl)) (ba_cons (be_tup (ba_cons be_int (ba_cons (be_lst (ba_cons (be_name (pv 2)) (ba_cons (be_name (pv 1)) (ba_cons (be_name (pv 5)) ba_nil rfl) rfl) rfl)) ba_nil rfl) rfl)) (ba_cons (be_tup (ba_cons be_int (ba_cons (be_lst (ba_cons (be_name (pv 5)) ba_nil rfl)) ba_nil rfl) rfl)) ba_nil rfl) rfl) rfl) rfl) rfl) rfl) rfl)) rfl (by first | exact Or.inl rfl | exact Or.inr rfl))
      (bss_cons (bs_for (passes_of rfl) rfl (bi_E rfl (be_name (pv 6))) (bg_tup rfl rfl (bgs_cons (bg_name (pg_name (i := 7) sc_law_e_refusals.nd rfl (by first | exact Or.inl rfl | exact Or.inr rfl)) (npin_of (by decide))) (bgs_cons (bg_name (pg_name (i := 8) sc_law_e_refusals.nd rfl (by first | exact Or.inl rfl | exact Or.inr rfl)) (npin_of (by decide))) bgs_nil rfl) rfl) rfl rfl) (bss_one (bs_tryAs (i := 9) rfl rfl sc_law_e_refusals.nd rfl rfl ⟨rfl, by decide, .inl T.g_BadRow⟩ (takes_of rfl rfl rfl rfl) (npin_of (by decide)) rfl rfl (isA_BadRow_ok T) (fun W' pn xe tk po => (bss_one (bs_if (bt_cmp (op_eqD hr.units) eqS (nomark _) (be_name (pv 7)) be_int) (bss_one (bs_expr (be_appN (pcApp (pv 4) rfl rfl rfl rfl rfl) (pa_cons (be_call (ok_words_due T) (hr.mono (by decide)) rfl T.m_words_due T.F_words_due.kp T.b_words_due tk (ba_cons (be_ixN (hu_of hr) rfl (pv 8) be_int fun _ _ => rfl) (ba_cons (be_ixN (hu_of hr) rfl (pv 8) be_int fun _ _ => rfl) (ba_cons (be_ixN (hu_of hr) rfl (pv 8) be_int fun _ _ => rfl) ba_nil rfl) rfl) rfl) rfl rfl rfl) pa_nil)) rfl)) (bss_one (bs_if (bt_cmp (op_eqD hr.units) eqS (nomark _) (be_name (pv 7)) be_int) (bss_one (bs_expr (be_appN (pcApp (pv 4) rfl rfl rfl rfl rfl) (pa_cons (be_call (ok_session_end T) (hr.mono (by decide)) rfl T.m_session_end T.F_session_end.kp T.b_session_end tk (ba_cons (be_ixN (hu_of hr) rfl (pv 8) be_int fun _ _ => rfl) (ba_cons (be_ixN (hu_of hr) rfl (pv 8) be_int fun _ _ => rfl) (ba_cons (be_ixN (hu_of hr) rfl (pv 8) be_int fun _ _ => rfl) ba_nil rfl) rfl) rfl) rfl rfl rfl) pa_nil)) rfl)) (bss_one (bs_expr (be_appN (pcApp (pv 4) rfl rfl rfl rfl rfl) (pa_cons (be_call (ok_budget_due T) (hr.mono (by decide)) rfl T.m_budget_due T.F_budget_due.kp T.b_budget_due tk (ba_cons (be_ixN (hu_of hr) rfl (pv 8) be_int fun _ _ => rfl) ba_nil rfl) rfl rfl rfl) pa_nil)) rfl))))))) (fun a oe cls d pn hz hf => (bss_one (bs_expr (be_appN (pcApp (pv 4) rfl rfl rfl rfl rfl) (pa_cons (be_xf T.x_BadRow T.n_BadRow_what (A.ca_BadRow) hz hf (pv 9) rfl) pa_nil)) rfl))))) fun _ => rfl)
      (bss_one (bs_ret (be_cmp (op_eqD hr.units) eqS (nomark _) (be_name (pv 4)) (be_lc (own := [("one", 10)]) rfl sc_law_e_refusals.nd (bi_E rfl (be_name (pv 6))) (blkOk_by (N := N_law_e_refusals) (sc := defScope st_law_e_refusals) (by decide +kernel)) (by decide) (npins_of (by decide)) (fun _ _ _ _ _ => (bg_name (pg_name (i := 10) sc_law_e_refusals.nd rfl (by first | exact Or.inl rfl | exact Or.inr rfl)) (npin_of (by decide)))) (fun _ _ _ _ _ => bts_nil) (fun _ _ _ _ _ => be_str) fun _ => rfl))))))))
theorem ok_law_same (T : Tx P w K mg base A) : ∀ n, FnOk P w K mg base (L2.CX P w) (n + 1) A.f_law_same A.d_law_same ["answer", "due"] (spD ⟨K, A.ca⟩ 2 (F_law_same n))
  | 0 => def_bad
  | n + 1 => have ih := ok_law_same T n
    def_ok (ca := A.ca) T.F_law_same sc_law_same (by decide) fun cdv A' outer s H vs E hr => by
    exact (bss_cons (bs_if (bt_val (be_callB (pcB call_isiA rfl T.z_isinstance bt_isinstance (by decide) rfl rfl rfl) isiS (ba_io (pv 1) (ba_cons (be_ty rfl T.z_dict bt_dict (by decide) rfl) ba_nil rfl) rfl)) fun _ => rfl) (bss_cons (bs_setLc (i := 2) (own := [("key", 3)]) rfl sc_law_same.nd rfl rfl (npin_of (by decide)) (sw_true rfl rfl rfl (by decide +kernel)) (bi_E rfl (be_name (pv 1))) (blkOk_by (N := N_law_same) (sc := defScope st_law_same) (by decide +kernel)) (by decide) (npins_of (by decide)) (fun _ _ _ _ _ => (bg_name (pg_name (i := 3) sc_law_same.nd rfl (by first | exact Or.inl rfl | exact Or.inr rfl)) (npin_of (by decide)))) (fun _ _ _ _ _ => bts_nil) (fun _ _ _ _ _ => (be_lst (ba_cons (be_name (pv 3)) (ba_cons (be_ixN (hu_of hr) rfl (pv 1) (be_name (pv 3)) fun _ _ => rfl) ba_nil rfl) rfl))) fun _ => rfl)
      (bss_cons (bs_if (bt_w (bw_or (bt_not (bt_val (be_callB (pcB call_isiA rfl T.z_isinstance bt_isinstance (by decide) rfl rfl rfl) isiS (ba_io (pv 0) (ba_cons (be_ty rfl T.z_dict bt_dict (by decide) rfl) ba_nil rfl) rfl)) fun _ => rfl)) (bw_or1 (bt_cmp (op_neD hr.units) neS (nomark _) (be_callB (pcB call_len rfl T.z_len bt_len (by decide) rfl rfl rfl) lenS (ba_io (pv 0) ba_nil rfl)) (be_callB (pcB call_len rfl T.z_len bt_len (by decide) rfl rfl rfl) lenS (ba_io (pv 1) ba_nil rfl)))))) (bss_one (bs_ret be_bl)) bss_nil)
      (bss_one (bs_ret (be_callB (pcB (cr_all rfl) rfl T.z_all bt_all (by decide) rfl rfl rfl) allS (ba_cons (be_lc (own := [("key", 3), ("one", 4)]) rfl sc_law_same.nd (bi_E rfl (be_name (pv 2))) (blkOk_by (N := N_law_same) (sc := defScope st_law_same) (by decide +kernel)) (by decide) (npins_of (by decide)) (fun _ _ _ _ _ => (bg_tup rfl rfl (bgs_cons (bg_name (pg_name (i := 3) sc_law_same.nd rfl (by first | exact Or.inl rfl | exact Or.inr rfl)) (npin_of (by decide))) (bgs_cons (bg_name (pg_name (i := 4) sc_law_same.nd rfl (by first | exact Or.inl rfl | exact Or.inr rfl)) (npin_of (by decide))) bgs_nil rfl) rfl) rfl rfl)) (fun _ _ _ _ _ => bts_nil) (fun _ _ _ _ _ => (be_and (be_cmp op_inA inS rfl (be_name (pv 3)) (be_name (pv 0))) (be_one (be_call ih (hr.mono (by omega)) rfl T.m_law_same T.F_law_same.kp T.b_law_same takes0 (ba_cons (be_ixN (hu_of hr) rfl (pv 0) (be_name (pv 3)) fun _ _ => rfl) (ba_cons (be_name (pv 4)) ba_nil rfl) rfl) rfl rfl rfl)))) fun _ => rfl) ba_nil rfl)))))) bss_nil)
      (bss_cons (bs_if (bt_val (be_callB (pcB call_isiA rfl T.z_isinstance bt_isinstance (by decide) rfl rfl rfl) isiS (ba_io (pv 1) (ba_cons (be_tup (ba_cons (be_ty rfl T.z_list bt_list (by decide) rfl) (ba_cons (be_ty rfl T.z_tuple bt_tuple (by decide) rfl) ba_nil rfl) rfl)) ba_nil rfl) rfl)) fun _ => rfl) (bss_cons (bs_if (bt_w (bw_or (bt_cmp (op_neD hr.units) neS (nomark _) (be_callB (pcB call_isiA rfl T.z_isinstance bt_isinstance (by decide) rfl rfl rfl) isiS (ba_io (pv 1) (ba_cons (be_ty rfl T.z_list bt_list (by decide) rfl) ba_nil rfl) rfl)) (be_callB (pcB call_isiA rfl T.z_isinstance bt_isinstance (by decide) rfl rfl rfl) isiS (ba_io (pv 0) (ba_cons (be_ty rfl T.z_list bt_list (by decide) rfl) ba_nil rfl) rfl))) (bw_or1 (bt_cmp (op_neD hr.units) neS (nomark _) (be_callB (pcB call_isiA rfl T.z_isinstance bt_isinstance (by decide) rfl rfl rfl) isiS (ba_io (pv 1) (ba_cons (be_ty rfl T.z_tuple bt_tuple (by decide) rfl) ba_nil rfl) rfl)) (be_callB (pcB call_isiA rfl T.z_isinstance bt_isinstance (by decide) rfl rfl rfl) isiS (ba_io (pv 0) (ba_cons (be_ty rfl T.z_tuple bt_tuple (by decide) rfl) ba_nil rfl) rfl)))))) (bss_one (bs_ret be_bl)) bss_nil)
      (bss_one (bs_ret (be_and (be_cmp (op_eqD hr.units) eqS (nomark _) (be_callB (pcB call_len rfl T.z_len bt_len (by decide) rfl rfl rfl) lenS (ba_io (pv 0) ba_nil rfl)) (be_callB (pcB call_len rfl T.z_len bt_len (by decide) rfl rfl rfl) lenS (ba_io (pv 1) ba_nil rfl))) (be_one (be_callB (pcB (cr_all rfl) rfl T.z_all bt_all (by decide) rfl rfl rfl) allS (ba_cons (be_lc (own := [("at", 5)]) rfl sc_law_same.nd (bi_rng1 rfl T.z_range (ba_cons (be_callB (pcB call_len rfl T.z_len bt_len (by decide) rfl rfl rfl) lenS (ba_io (pv 1) ba_nil rfl)) ba_nil rfl) rfl) (blkOk_by (N := N_law_same) (sc := defScope st_law_same) (by decide +kernel)) (by decide) (npins_of (by decide)) (fun _ _ _ _ _ => (bg_name (pg_name (i := 5) sc_law_same.nd rfl (by first | exact Or.inl rfl | exact Or.inr rfl)) (npin_of (by decide)))) (fun _ _ _ _ _ => bts_nil) (fun _ _ _ _ _ => (be_call ih (hr.mono (by omega)) rfl T.m_law_same T.F_law_same.kp T.b_law_same takes0 (ba_cons (be_ixN (hu_of hr) rfl (pv 0) (be_name (pv 5)) fun _ _ => rfl) (ba_cons (be_ixN (hu_of hr) rfl (pv 1) (be_name (pv 5)) fun _ _ => rfl) ba_nil rfl) rfl) rfl rfl rfl)) fun _ => rfl) ba_nil rfl))))))) bss_nil)
      (bss_one (bs_ret (be_and (be_or (be_cmp op_isN isS (nomark _) (be_name (pv 0)) be_non) (be_one (be_callB (pcB call_isiA rfl T.z_isinstance bt_isinstance (by decide) rfl rfl rfl) isiS (ba_io (pv 0) (ba_cons (be_tup (ba_cons (be_ty rfl T.z_int bt_int (by decide) rfl) (ba_cons (be_ty rfl T.z_str bt_str (by decide) rfl) ba_nil rfl) rfl)) ba_nil rfl) rfl)))) (be_one (be_cmp (op_eqD hr.units) eqS (nomark _) (be_callB (pcB call_repr rfl T.z_repr bt_repr (by decide) rfl rfl rfl) reprS (ba_io (pv 0) ba_nil rfl)) (be_callB (pcB call_repr rfl T.z_repr bt_repr (by decide) rfl rfl rfl) reprS (ba_io (pv 1) ba_nil rfl)))))))))
theorem ok_law_e_budget (T : Tx P w K mg base A) : FnOk P w K mg base (L2.CX P w) 1 A.f_law_e_budget A.d_law_e_budget ["most"] (spD ⟨K, A.ca⟩ 1 F_law_e_budget) :=
  def_ok (ca := A.ca) T.F_law_e_budget sc_law_e_budget (by decide) fun cdv A' outer s H vs E hr => by
    exact (bss_cons (bs_set (i := 1) sc_law_e_budget.nd rfl (by first | exact Or.inl rfl | exact Or.inr rfl) (npin_of (by decide)) (be_lst (ba_cons be_int (ba_cons be_int ba_nil rfl) rfl)) rfl (by first | exact Or.inl rfl | exact Or.inr rfl))
      (bss_cons (bs_set (i := 2) sc_law_e_budget.nd rfl (by first | exact Or.inl rfl | exact Or.inr rfl) (npin_of (by decide)) be_int rfl (by first | exact Or.inl rfl | exact Or.inr rfl))
      (bss_cons (bs_for (passes_of rfl) rfl (bi_rng1 rfl T.z_range (ba_cons (be_bin op_addA addS (be_name (pv 0)) be_int) ba_nil rfl) rfl) (bg_name (pg_name (i := 3) sc_law_e_budget.nd rfl (by first | exact Or.inl rfl | exact Or.inr rfl)) (npin_of (by decide))) (bss_cons (bs_set (i := 2) sc_law_e_budget.nd rfl (by first | exact Or.inl rfl | exact Or.inr rfl) (npin_of (by decide)) (be_callB (pcB (call_maxA rfl) rfl T.z_max bt_max (by decide) rfl rfl rfl) maxS (ba_io (pv 2) (ba_cons (be_callB (pcB (cr_sum rfl) rfl T.z_sum bt_sum (by decide) rfl rfl rfl) sumS (ba_cons (be_lc (own := [("j", 4)]) rfl sc_law_e_budget.nd (bi_rng1 rfl T.z_range (ba_cons (be_callB (pcB call_len rfl T.z_len bt_len (by decide) rfl rfl rfl) lenS (ba_io (pv 1) ba_nil rfl)) ba_nil rfl) rfl) (blkOk_by (N := N_law_e_budget) (sc := defScope st_law_e_budget) (by decide +kernel)) (by decide) (npins_of (by decide)) (fun _ _ _ _ _ => (bg_name (pg_name (i := 4) sc_law_e_budget.nd rfl (by first | exact Or.inl rfl | exact Or.inr rfl)) (npin_of (by decide)))) (fun _ _ _ _ _ => (bts_one (bt_cmp op_le leS (nomark _) (be_bin op_addA addS (be_name (pv 4)) (be_name (pv 3))) (be_name (pv 0))))) (fun _ _ _ _ _ => (be_ixN (hu_of hr) rfl (pv 1) (be_name (pv 4)) fun _ _ => rfl)) fun _ => rfl) ba_nil rfl)) ba_nil rfl) rfl)) rfl (by first | exact Or.inl rfl | exact Or.inr rfl))
      (bss_one (bs_set (i := 1) sc_law_e_budget.nd rfl (by first | exact Or.inl rfl | exact Or.inr rfl) (npin_of (by decide)) (be_bin op_addA addS (be_bin op_addA addS (be_lst (ba_cons be_int ba_nil rfl)) (be_lc (own := [("j", 4)]) rfl sc_law_e_budget.nd (bi_rng1 rfl T.z_range (ba_cons (be_bin op_sub subS (be_callB (pcB call_len rfl T.z_len bt_len (by decide) rfl rfl rfl) lenS (ba_io (pv 1) ba_nil rfl)) be_int) ba_nil rfl) rfl) (blkOk_by (N := N_law_e_budget) (sc := defScope st_law_e_budget) (by decide +kernel)) (by decide) (npins_of (by decide)) (fun _ _ _ _ _ => (bg_name (pg_name (i := 4) sc_law_e_budget.nd rfl (by first | exact Or.inl rfl | exact Or.inr rfl)) (npin_of (by decide)))) (fun _ _ _ _ _ => bts_nil) (fun _ _ _ _ _ => (be_bin op_addA addS (be_ixN (hu_of hr) rfl (pv 1) (be_name (pv 4)) fun _ _ => rfl) (be_ixN (hu_of hr) rfl (pv 1) (be_bin op_addA addS (be_name (pv 4)) be_int) fun _ _ => rfl))) fun _ => rfl)) (be_lst (ba_cons be_int ba_nil rfl))) rfl (by first | exact Or.inl rfl | exact Or.inr rfl)))) fun _ => rfl)
      (bss_one (bs_retV (pv 2))))))
theorem ok_law_e_words (T : Tx P w K mg base A) : FnOk P w K mg base (L2.CX P w) 1 A.f_law_e_words A.d_law_e_words ["n", "late", "m"] (spD ⟨K, A.ca⟩ 3 F_law_e_words) :=
  def_ok (ca := A.ca) T.F_law_e_words sc_law_e_words (by decide) fun cdv A' outer s H vs E hr => by
    exact (bss_cons (bs_set (i := 3) sc_law_e_words.nd rfl (by first | exact Or.inl rfl | exact Or.inr rfl) (npin_of (by decide)) (be_bin op_fdivW divS (be_bin op_addA addS (be_name (pv 0)) be_int) be_int) rfl (by first | exact Or.inl rfl | exact Or.inr rfl))
      (bss_cons (bs_set (i := 4) sc_law_e_words.nd rfl (by first | exact Or.inl rfl | exact Or.inr rfl) (npin_of (by decide)) (be_bin op_fdivW divS (be_name (pv 0)) be_int) rfl (by first | exact Or.inl rfl | exact Or.inr rfl))
      (bss_cons (bs_set (i := 5) sc_law_e_words.nd rfl (by first | exact Or.inl rfl | exact Or.inr rfl) (npin_of (by decide)) (be_bin op_addA addS (be_bin op_fdivW divS (be_name (pv 1)) be_int) be_int) rfl (by first | exact Or.inl rfl | exact Or.inr rfl))
      (bss_cons (bs_set (i := 6) sc_law_e_words.nd rfl (by first | exact Or.inl rfl | exact Or.inr rfl) (npin_of (by decide)) (be_if (bt_cmp op_gt gtS (nomark _) (be_name (pv 5)) be_int) (be_name (pv 5)) be_int) rfl (by first | exact Or.inl rfl | exact Or.inr rfl))
      (bss_cons (bs_set (i := 6) sc_law_e_words.nd rfl (by first | exact Or.inl rfl | exact Or.inr rfl) (npin_of (by decide)) (be_if (bt_cmp op_lt ltS (nomark _) (be_name (pv 3)) (be_name (pv 6))) (be_name (pv 3)) (be_name (pv 6))) rfl (by first | exact Or.inl rfl | exact Or.inr rfl))
      (bss_cons (bs_set (i := 7) sc_law_e_words.nd rfl (by first | exact Or.inl rfl | exact Or.inr rfl) (npin_of (by decide)) (be_if (bt_cmp op_lt ltS (nomark _) (be_name (pv 5)) (be_name (pv 4))) (be_name (pv 5)) (be_name (pv 4))) rfl (by first | exact Or.inl rfl | exact Or.inr rfl))
      (bss_one (bs_ret (be_tup (ba_cons (be_if (bt_cmp op_gt gtS (nomark _) (be_name (pv 2)) (be_name (pv 6))) (be_name (pv 2)) (be_name (pv 6))) (ba_cons (be_if (bt_cmp (op_eqD hr.units) eqS (nomark _) (be_name (pv 4)) be_int) be_non (be_if (bt_cmp op_gt gtS (nomark _) (be_name (pv 7)) be_int) (be_name (pv 7)) be_int)) ba_nil rfl) rfl))))))))))
theorem ok_law (T : Tx P w K mg base A) : FnOk P w K mg base (L2.CX P w) 10 A.f_law A.d_law ["script"] (spD ⟨K, A.ca⟩ 1 F_law) :=
  def_ok (ca := A.ca) T.F_law sc_law (by decide) fun cdv A' outer s H vs E hr => by
    exact (bss_cons (bs_set (i := 1) sc_law.nd rfl (by first | exact Or.inl rfl | exact Or.inr rfl) (npin_of (by decide)) (be_call (ok_law_source T) (hr.mono (by decide)) rfl T.m_law_source T.F_law_source.kp T.b_law_source (takes_of rfl rfl rfl rfl) (ba_cons (be_name (pv 0)) (ba_cons be_int ba_nil rfl) rfl) rfl rfl rfl) rfl (by first | exact Or.inl rfl | exact Or.inr rfl))
      (bss_cons (bs_set (i := 2) sc_law.nd rfl (by first | exact Or.inl rfl | exact Or.inr rfl) (npin_of (by decide)) (be_if (bt_cmp (op_eqD hr.units) eqS (nomark _) (be_call (ok_law_pick T) (hr.mono (by decide)) rfl T.m_law_pick T.F_law_pick.kp T.b_law_pick (takes_of rfl rfl rfl rfl) (ba_io (pv 1) (ba_cons be_int ba_nil rfl) rfl) rfl rfl rfl) be_int) (be_bin op_addA addS be_int (be_call (ok_law_pick T) (hr.mono (by decide)) rfl T.m_law_pick T.F_law_pick.kp T.b_law_pick (takes_of rfl rfl rfl rfl) (ba_io (pv 1) (ba_cons be_int ba_nil rfl) rfl) rfl rfl rfl)) (be_bin op_addA addS be_int (be_call (ok_law_pick T) (hr.mono (by decide)) rfl T.m_law_pick T.F_law_pick.kp T.b_law_pick (takes_of rfl rfl rfl rfl) (ba_io (pv 1) (ba_cons be_int ba_nil rfl) rfl) rfl rfl rfl))) rfl (by first | exact Or.inl rfl | exact Or.inr rfl))
      (bss_cons (bs_set (i := 3) sc_law.nd rfl (by first | exact Or.inl rfl | exact Or.inr rfl) (npin_of (by decide)) (be_call (ok_law_e_number T) (hr.mono (by decide)) rfl T.m_law_e_number T.F_law_e_number.kp T.b_law_e_number (takes_of rfl rfl rfl rfl) (ba_io (pv 1) (ba_cons (be_name (pv 2)) ba_nil rfl) rfl) rfl rfl rfl) rfl (by first | exact Or.inl rfl | exact Or.inr rfl))
      (bss_cons (bs_set (i := 4) sc_law.nd rfl (by first | exact Or.inl rfl | exact Or.inr rfl) (npin_of (by decide)) (be_bin op_addA addS be_int (be_call (ok_law_e_number T) (hr.mono (by decide)) rfl T.m_law_e_number T.F_law_e_number.kp T.b_law_e_number (takes_of rfl rfl rfl rfl) (ba_io (pv 1) (ba_cons (be_bin op_fdivW divS (be_name (pv 3)) be_int) ba_nil rfl) rfl) rfl rfl rfl)) rfl (by first | exact Or.inl rfl | exact Or.inr rfl))
      (bss_cons (bs_for (passes_of rfl) rfl (bi_E rfl (be_lst (ba_cons (be_name (pv 2)) (ba_cons (be_callB (pcB (call_maxA rfl) rfl T.z_max bt_max (by decide) rfl rfl rfl) maxS (ba_cons be_int (ba_cons (be_bin op_sub subS (be_name (pv 2)) be_int) ba_nil rfl) rfl)) (ba_cons (be_bin op_addA addS (be_name (pv 2)) be_int) (ba_cons be_int (ba_cons be_int ba_nil rfl) rfl) rfl) rfl) rfl))) (bg_name (pg_name (i := 5) sc_law.nd rfl (by first | exact Or.inl rfl | exact Or.inr rfl)) (npin_of (by decide))) (bss_one (bs_for (passes_of rfl) rfl (bi_E rfl (be_lst (ba_cons (be_name (pv 3)) (ba_cons (be_bin op_addA addS (be_name (pv 3)) be_int) (ba_cons (be_callB (pcB (call_maxA rfl) rfl T.z_max bt_max (by decide) rfl rfl rfl) maxS (ba_cons be_int (ba_cons (be_bin op_sub subS (be_name (pv 3)) be_int) ba_nil rfl) rfl)) (ba_cons be_int ba_nil rfl) rfl) rfl) rfl))) (bg_name (pg_name (i := 11) sc_law.nd rfl (by first | exact Or.inl rfl | exact Or.inr rfl)) (npin_of (by decide))) (bss_one (bs_for (passes_of rfl) rfl (bi_E rfl (be_lst (ba_cons (be_name (pv 4)) (ba_cons be_int ba_nil rfl) rfl))) (bg_name (pg_name (i := 13) sc_law.nd rfl (by first | exact Or.inl rfl | exact Or.inr rfl)) (npin_of (by decide))) (bss_one (bs_if (bt_not (bt_val (be_call (ok_law_same T _) (hr.mono (by decide)) rfl T.m_law_same T.F_law_same.kp T.b_law_same (takes_of rfl rfl rfl rfl) (ba_cons (be_call (ok_words_due T) (hr.mono (by decide)) rfl T.m_words_due T.F_words_due.kp T.b_words_due (takes_of rfl rfl rfl rfl) (ba_cons (be_name (pv 5)) (ba_cons (be_name (pv 11)) (ba_cons (be_name (pv 13)) ba_nil rfl) rfl) rfl) rfl rfl rfl) (ba_cons (be_call (ok_law_e_words T) (hr.mono (by decide)) rfl T.m_law_e_words T.F_law_e_words.kp T.b_law_e_words (takes_of rfl rfl rfl rfl) (ba_cons (be_name (pv 5)) (ba_cons (be_name (pv 11)) (ba_cons (be_name (pv 13)) ba_nil rfl) rfl) rfl) rfl rfl rfl) ba_nil rfl) rfl) rfl rfl rfl) fun _ => rfl)) (bss_one (bs_ret be_bl)) bss_nil)) fun _ => rfl)) fun _ => rfl)) fun _ => rfl)
      (bss_cons (bs_set (i := 6) sc_law.nd rfl (by first | exact Or.inl rfl | exact Or.inr rfl) (npin_of (by decide)) (be_call (ok_law_e_number T) (hr.mono (by decide)) rfl T.m_law_e_number T.F_law_e_number.kp T.b_law_e_number (takes_of rfl rfl rfl rfl) (ba_io (pv 1) (ba_cons (be_bin op_fdivW divS (be_name (pv 2)) be_int) ba_nil rfl) rfl) rfl rfl rfl) rfl (by first | exact Or.inl rfl | exact Or.inr rfl))
      (bss_cons (bs_set (i := 7) sc_law.nd rfl (by first | exact Or.inl rfl | exact Or.inr rfl) (npin_of (by decide)) (be_call (ok_law_e_number T) (hr.mono (by decide)) rfl T.m_law_e_number T.F_law_e_number.kp T.b_law_e_number (takes_of rfl rfl rfl rfl) (ba_io (pv 1) (ba_cons (be_name (pv 2)) ba_nil rfl) rfl) rfl rfl rfl) rfl (by first | exact Or.inl rfl | exact Or.inr rfl))
      (bss_cons (bs_for (passes_of rfl) rfl (bi_E rfl (be_lst (ba_cons (be_name (pv 7)) (ba_cons (be_bin op_addA addS (be_name (pv 7)) be_int) (ba_cons be_int (ba_cons be_int ba_nil rfl) rfl) rfl) rfl))) (bg_name (pg_name (i := 8) sc_law.nd rfl (by first | exact Or.inl rfl | exact Or.inr rfl)) (npin_of (by decide))) (bss_one (bs_for (passes_of rfl) rfl (bi_E rfl (be_lst (ba_cons (be_name (pv 6)) (ba_cons (be_bin op_addA addS (be_name (pv 6)) be_int) (ba_cons (be_callB (pcB (call_maxA rfl) rfl T.z_max bt_max (by decide) rfl rfl rfl) maxS (ba_cons be_int (ba_cons (be_bin op_sub subS (be_name (pv 6)) be_int) ba_nil rfl) rfl)) (ba_cons be_int ba_nil rfl) rfl) rfl) rfl))) (bg_name (pg_name (i := 12) sc_law.nd rfl (by first | exact Or.inl rfl | exact Or.inr rfl)) (npin_of (by decide))) (bss_one (bs_for (passes_of rfl) rfl (bi_E rfl (be_lst (ba_cons (be_name (pv 2)) (ba_cons (be_bin op_addA addS (be_name (pv 2)) be_int) ba_nil rfl) rfl))) (bg_name (pg_name (i := 5) sc_law.nd rfl (by first | exact Or.inl rfl | exact Or.inr rfl)) (npin_of (by decide))) (bss_cons (bs_set (i := 14) sc_law.nd rfl (by first | exact Or.inl rfl | exact Or.inr rfl) (npin_of (by decide)) (be_bin op_sub subS (be_bin op_sub subS (be_name (pv 5)) (be_bin op_mulW mulS be_int (be_name (pv 12)))) (be_bin op_mod modS (be_callB (pcT call_int1 rfl T.z_int bt_int (by decide) rfl rfl rfl) intS (ba_io (pv 8) ba_nil rfl)) be_int)) rfl (by first | exact Or.inl rfl | exact Or.inr rfl))
      (bss_one (bs_if (bt_not (bt_val (be_call (ok_law_same T _) (hr.mono (by decide)) rfl T.m_law_same T.F_law_same.kp T.b_law_same (takes_of rfl rfl rfl rfl) (ba_cons (be_call (ok_session_end T) (hr.mono (by decide)) rfl T.m_session_end T.F_session_end.kp T.b_session_end (takes_of rfl rfl rfl rfl) (ba_cons (be_name (pv 8)) (ba_cons (be_name (pv 5)) (ba_cons (be_name (pv 12)) ba_nil rfl) rfl) rfl) rfl rfl rfl) (ba_cons (be_bin op_addA addS (be_name (pv 8)) (be_if (bt_cmp op_gt gtS (nomark _) (be_name (pv 14)) be_int) (be_name (pv 14)) be_int)) ba_nil rfl) rfl) rfl rfl rfl) fun _ => rfl)) (bss_one (bs_ret be_bl)) bss_nil))) fun _ => rfl)) fun _ => rfl)) fun _ => rfl)
      (bss_cons (bs_set (i := 9) sc_law.nd rfl (by first | exact Or.inl rfl | exact Or.inr rfl) (npin_of (by decide)) (be_if (bt_cmp (op_eqD hr.units) eqS (nomark _) (be_call (ok_law_pick T) (hr.mono (by decide)) rfl T.m_law_pick T.F_law_pick.kp T.b_law_pick (takes_of rfl rfl rfl rfl) (ba_io (pv 1) (ba_cons be_int ba_nil rfl) rfl) rfl rfl rfl) be_int) (be_call (ok_law_pick T) (hr.mono (by decide)) rfl T.m_law_pick T.F_law_pick.kp T.b_law_pick (takes_of rfl rfl rfl rfl) (ba_io (pv 1) (ba_cons be_int ba_nil rfl) rfl) rfl rfl rfl) (be_call (ok_law_pick T) (hr.mono (by decide)) rfl T.m_law_pick T.F_law_pick.kp T.b_law_pick (takes_of rfl rfl rfl rfl) (ba_io (pv 1) (ba_cons be_int ba_nil rfl) rfl) rfl rfl rfl)) rfl (by first | exact Or.inl rfl | exact Or.inr rfl))
      (bss_cons (bs_for (passes_of rfl) rfl (bi_E rfl (be_lst (ba_cons (be_name (pv 9)) (ba_cons (be_bin op_addA addS (be_name (pv 9)) be_int) (ba_cons be_int ba_nil rfl) rfl) rfl))) (bg_name (pg_name (i := 10) sc_law.nd rfl (by first | exact Or.inl rfl | exact Or.inr rfl)) (npin_of (by decide))) (bss_one (bs_if (bt_not (bt_val (be_call (ok_law_same T _) (hr.mono (by decide)) rfl T.m_law_same T.F_law_same.kp T.b_law_same (takes_of rfl rfl rfl rfl) (ba_cons (be_call (ok_budget_due T) (hr.mono (by decide)) rfl T.m_budget_due T.F_budget_due.kp T.b_budget_due (takes_of rfl rfl rfl rfl) (ba_cons (be_name (pv 10)) ba_nil rfl) rfl rfl rfl) (ba_cons (be_call (ok_law_e_budget T) (hr.mono (by decide)) rfl T.m_law_e_budget T.F_law_e_budget.kp T.b_law_e_budget (takes_of rfl rfl rfl rfl) (ba_cons (be_name (pv 10)) ba_nil rfl) rfl rfl rfl) ba_nil rfl) rfl) rfl rfl rfl) fun _ => rfl)) (bss_one (bs_ret be_bl)) bss_nil)) fun _ => rfl)
      (bss_one (bs_ret (be_call (ok_law_e_refusals T) (hr.mono (by decide)) rfl T.m_law_e_refusals T.F_law_e_refusals.kp T.b_law_e_refusals (takes_of rfl rfl rfl rfl) (ba_io (pv 1) (ba_cons (be_name (pv 2)) (ba_cons (be_name (pv 3)) (ba_cons (be_name (pv 4)) ba_nil rfl) rfl) rfl) rfl) rfl rfl rfl)))))))))))))
end
end K24

namespace K24
open PySem L2 Bx Lw
set_option maxRecDepth 100000
set_option maxHeartbeats 4000000
theorem num_ok {n : Nat} {s : D} {near : Int} (h : Stk (n + 2) s) (h0 : 0 ≤ near) (h1 : near < 2 ^ 40) : ∃ r s', F_law_e_number [s, .int near] = .ok (.int r) [some s', none] ∧ 0 ≤ r ∧ r ≤ 99999 ∧ Stk n s' := by
  obtain ⟨r1, s1, e1, a1, b1, k1⟩ := pick_ok (m := 3) h (by decide) (by decide)
  unfold F_law_e_number B_law_e_number
  by_cases c0 : r1 = 0
  · obtain ⟨r2, s2, e2, a2, b2, k2⟩ := pick_ok (m := 9) k1 (by decide) (by decide)
    exact ⟨r2, s2, by simp [fDef, fSeq, e1, eqD_int, c0, e2, outs], a2, by omega, k2⟩
  · by_cases c1 : r1 = 1
    · obtain ⟨r2, s2, e2, a2, b2, k2⟩ := pick_ok (m := 5) k1 (by decide) (by decide)
      exact ⟨_, s2, by simp [fDef, fSeq, e1, eqD_int, c1, e2, outs]; rfl, by split <;> split <;> omega, by split <;> split <;> omega, k2⟩
    · obtain ⟨r2, s2, e2, a2, b2, k2⟩ := pick_ok (m := 100000) k1 (by decide) (by decide)
      exact ⟨r2, s2, by simp [fDef, fSeq, e1, eqD_int, c0, c1, e2, outs], a2, by omega, k2⟩
theorem check3 {a b c x y z : Int} (o o' : Bool) : F_check_numbers [.nd .lst o [.int a, .int b, .int c], .nd .lst o' [.int x, .int y, .int z]] = if a < x ∨ b < y ∨ c < z then .exc ⟨"BadRow", ["what"], [.str "numbers"]⟩ [none, none] else .ok .non [none, none] := by
  unfold F_check_numbers B_check_numbers
  by_cases h1 : a < x
  · cases o <;> cases o' <;> simp [fDef, rngD, ixN, h1, fRaise, List.range_succ, forL_cons]
  · by_cases h2 : b < y
    · cases o <;> cases o' <;> simp [fDef, rngD, ixN, h1, h2, fRaise, List.range_succ, forL_cons]
    · by_cases h3 : c < z
      · cases o <;> cases o' <;> simp [fDef, rngD, ixN, h1, h2, h3, fRaise, List.range_succ, forL_cons]
      · cases o <;> cases o' <;> simp [fDef, rngD, ixN, h1, h2, h3, fRaise, List.range_succ, forL_cons]
/-- the words of one turn -/
def wC (n late m : Int) : Int := let first := if late / 2 + 1 > 2 then late / 2 + 1 else 2; let f2 := if (n + 1) / 2 < first then (n + 1) / 2 else first; if m > f2 then m else f2
def wA (n late : Int) : D := if n / 2 = 0 then .non else let s := if late / 2 + 1 < n / 2 then late / 2 + 1 else n / 2; .int (if s > 2 then s else 2)
theorem words_ok {n late m : Int} (hn : 1 ≤ n) (hl : 0 ≤ late) (hm : 1 ≤ m) : F_words_due [.int n, .int late, .int m] = .ok (.nd .tup false [.int (wC n late m), wA n late]) [none, none, none] := by
  have hc : F_check_numbers [.nd .lst true [.int n, .int late, .int m], .nd .lst true [.int 1, .int 0, .int 1]] = .ok .non [none, none] := by
    rw [check3, if_neg (by omega)]
  unfold F_words_due B_words_due
  by_cases h1 : n = 1
  · subst h1
    simp [fDef, fSeq, hc, eqD_int, lim]
    refine ⟨?_, by simp [wA]⟩
    unfold wC
    grind
  · simp [fDef, fSeq, hc, eqD_int, lim, h1]
    refine ⟨?_, ?_⟩
    · unfold wC
      grind
    · unfold wA
      have h2 : ¬ n / 2 = 0 := by omega
      rw [if_neg h2]
      dsimp only
      congr 1
      grind
theorem ewords_ok {n late m : Int} (hn : 1 ≤ n) (hl : 0 ≤ late) (hm : 1 ≤ m) : F_law_e_words [.int n, .int late, .int m] = .ok (.nd .tup false [.int (wC n late m), wA n late]) [none, none, none] := by
  unfold F_law_e_words B_law_e_words wC wA
  simp [fDef, fSeq, lim, eqD_int]
def sE (step n f : Int) : Int := let odd := step - 2 * (step / 2); step + (if n - 2 * f - odd > 0 then n - 2 * f - odd else 0)
theorem end_ok {step n f : Int} (h1 : 0 ≤ step) (h2 : 1 ≤ n) (h3 : 0 ≤ f) (b1 : step < 2 ^ 60) (b3 : f < 2 ^ 60) : F_session_end [.int step, .int n, .int f] = .ok (.int (sE step n f)) [none, none, none] := by
  have hc : F_check_numbers [.nd .lst true [.int step, .int n, .int f], .nd .lst true [.int 0, .int 1, .int 0]] = .ok .non [none, none] := by
    rw [check3, if_neg (by omega)]
  have m1 : mulOk 2 (step / 2) = true := mulOk_60 (by decide) (by omega)
  have m2 : mulOk 2 f = true := mulOk_60 (by decide) (by omega)
  unfold F_session_end B_session_end
  simp [fDef, fSeq, hc, m1, m2, sE, lim]
theorem words_no {n late m : Int} (h : n < 1 ∨ late < 0 ∨ m < 1) : F_words_due [.int n, .int late, .int m] = .exc ⟨"BadRow", ["what"], [.str "numbers"]⟩ [none, none, none] := by
  have hc : F_check_numbers [.nd .lst true [.int n, .int late, .int m], .nd .lst true [.int 1, .int 0, .int 1]] = .exc ⟨"BadRow", ["what"], [.str "numbers"]⟩ [none, none] := by
    rw [check3, if_pos (by omega)]
  unfold F_words_due B_words_due
  simp [fDef, fSeq, hc, lim]
theorem end_no {n late m : Int} (h : n < 0 ∨ late < 1 ∨ m < 0) : F_session_end [.int n, .int late, .int m] = .exc ⟨"BadRow", ["what"], [.str "numbers"]⟩ [none, none, none] := by
  have hc : F_check_numbers [.nd .lst true [.int n, .int late, .int m], .nd .lst true [.int 0, .int 1, .int 0]] = .exc ⟨"BadRow", ["what"], [.str "numbers"]⟩ [none, none] := by
    rw [check3, if_pos (by omega)]
  unfold F_session_end B_session_end
  simp [fDef, fSeq, hc, lim]
theorem budget_no {n : Int} (h : n < 0) : F_budget_due [.int n] = .exc ⟨"BadRow", ["what"], [.str "numbers"]⟩ [none] := by
  unfold F_budget_due B_budget_due F_check_numbers B_check_numbers
  simp [fDef, fSeq, lim, rngD, ixN, List.range_succ, h, fRaise, forL_cons]
/-- the sums of binomials: total and ways behind i turns -/
def chI (m : Int) : Nat → Int × Int
  | 0 => (0, 1)
  | i + 1 => let s := chI m i; (s.1 + s.2, s.2 * (m - (i : Int)) / ((i : Int) + 1))
def chT (m k : Int) : Int := (chI m ((if k < m then k else m) + 1).toNat).1
theorem chI_small : ∀ m < 43, ∀ i < 44, (chI (m : Nat) i).2.natAbs < 2 ^ 62 := by decide +kernel
theorem choices_ok {m k : Int} (h0 : 0 ≤ m) (h1 : m < 43) (h2 : 0 ≤ k) (h3 : k < 43) : F_choices [.int m, .int k] = .ok (.int (chT m k)) [none, none] := by
  have hb : ∀ i < 44, (chI m i).2.natAbs < 2 ^ 62 := fun i hi => by
    have := chI_small m.toNat (by omega) i hi
    rwa [Int.toNat_of_nonneg h0] at this
  unfold F_choices B_choices
  obtain ⟨c, hc⟩ : ∃ c : Int, (if k < m then k else m) = c := ⟨_, rfl⟩
  have c0 : 0 ≤ c ∧ c < 43 := by split at hc <;> omega
  have hl : ∃ e', forL (gN 4) (fSeq (fAug 2 addID (eN 3)) (fAsg (gN 3) (eBin divD (eBin mulD (eN 3) (eBin subD (eN 0) (eN 4))) (eBin addD (eN 4) (eC (.int 1)))))) (rngD 0 (c + 1).toNat) ⟨[some (.int m), some (.int k), some (.int 0), some (.int 1), none], none⟩ = .nx e' ∧
      ∃ x, e' = ⟨[some (.int m), some (.int k), some (.int (chI m (0 + (rngD 0 (c + 1).toNat).length)).1), some (.int (chI m (0 + (rngD 0 (c + 1).toNat).length)).2), x], none⟩ := by
    refine forL_ix (j := 0) (I := fun i e => ∃ x, e = ⟨[some (.int m), some (.int k), some (.int (chI m i).1), some (.int (chI m i).2), x], none⟩) ⟨none, rfl⟩ fun i x hx e he => ?_
    obtain ⟨x0, rfl⟩ := he
    rw [Nat.zero_add]
    obtain ⟨hi, rfl⟩ := rngD_at hx
    rw [Int.zero_add]
    have m1 : mulOk (chI m i).2 (m - (i : Int)) = true := mulOk_60 (hb i (by omega)) (by omega)
    have d1 : (0 : Int) < (i : Int) + 1 := by omega
    have d2 : ((i : Int) + 1).natAbs < 1152921504606846976 := by omega
    exact ⟨_, _, by simp; rfl, by simp [fSeq, m1, d1, d2]; exact ⟨rfl, rfl, rfl⟩, _, rfl⟩
  obtain ⟨e', hl, x, rfl⟩ := hl
  have hr : rngA1 [.int (c + 1)] = some (rngD 0 (c + 1).toNat) := rngA1_ok (by omega) (by omega)
  simp [fDef, fSeq, hc, hr, hl, -rngA1_ok]
  unfold chT
  rw [hc]
def budT (b : Int) : Int := maxI ((List.range (b + 1).toNat).map fun k : Nat => chT ((k : Int) + 1) (b - (k : Int)))
theorem budget_is {b : Int} (h0 : 0 ≤ b) (h1 : b < 42) : F_budget_due [.int b] = .ok (.int (budT b)) [none] := by
  have hc : F_check_numbers [.nd .lst true [.int b], .nd .lst true [.int 0]] = .ok .non [none, none] := by
    unfold F_check_numbers B_check_numbers
    have : ¬ b < 0 := by omega
    simp [fDef, rngD, ixN, forL_cons, this, List.range_succ]
  have hr : rngA1 [.int (b + 1)] = some (rngD 0 (b + 1).toNat) := rngA1_ok (by omega) (by omega)
  have hl := lcL_map (vs := [1]) (g := gN 1) (tt := tYesF) (el := eCall 2 F_choices (aCons (eBin addD (eN 1) (eC (.int 1))) (aCons (eBin subD (eN 0) (eN 1)) aNil))) (base := ⟨[some (.int b), none], none⟩)
    (y := fun d => match d with | .int k => .int (chT (k + 1) (b - k)) | d => d) (xs := rngD 0 (b + 1).toNat) (acc := []) (fun x hx => by
      obtain ⟨i, hi, rfl⟩ := rngD_mem hx
      have := choices_ok (m := (i : Int) + 1) (k := b - (i : Int)) (by omega) (by omega) (by omega) (by omega)
      exact ⟨_, _, _, by simp; rfl, rfl, by simp [this]; rfl, by simp⟩) (by simp [lim]; omega)
  have he : (rngD 0 (b + 1).toNat).map (fun d => match d with | .int k => .int (chT (k + 1) (b - k)) | d => d) = ((List.range (b + 1).toNat).map fun k : Nat => chT ((k : Int) + 1) (b - (k : Int))).map D.int := by
    unfold rngD
    rw [List.map_map, List.map_map]
    apply List.map_congr_left
    intro k _
    simp
  rw [List.nil_append, he] at hl
  have hne : (List.range (b + 1).toNat).map (fun k : Nat => chT ((k : Int) + 1) (b - (k : Int))) ≠ [] := by simp; omega
  unfold F_budget_due B_budget_due
  simp [fDef, fSeq, hc, hr, hl, lim, -rngA1_ok, -List.map_map, hne, -ne_eq, budT]
def nxtR (r : List Int) : List Int := 1 :: ((List.range (r.length - 1)).map fun j => (r[j]?).getD 0 + (r[j + 1]?).getD 0) ++ [1]
def rowI : Nat → List Int
  | 0 => [1, 1]
  | k + 1 => nxtR (rowI k)
def sumR (r : List Int) (k most : Int) : Int := (((List.range r.length).filter fun j : Nat => decide ((j : Int) + k ≤ most)).map fun j => (r[j]?).getD 0).sum
def fndI (most : Int) : Nat → Int
  | 0 => 0
  | k + 1 => let s := sumR (rowI k) k most; if s > fndI most k then s else fndI most k
theorem rowI_length : ∀ k, (rowI k).length = k + 2
  | 0 => rfl
  | k + 1 => by simp [rowI, nxtR, rowI_length k]
theorem at_get {r : List Int} {j : Nat} (h : j < r.length) : (r.map D.int)[j]? = some (.int ((r[j]?).getD 0)) := by simp [h]
theorem ebudget_is {b : Int} (h0 : 0 ≤ b) (h1 : b < 42) : F_law_e_budget [.int b] = .ok (.int (fndI b (b + 1).toNat)) [none] := by
  have hr : rngA1 [.int (b + 1)] = some (rngD 0 (b + 1).toNat) := rngA1_ok (by omega) (by omega)
  have hl : ∃ e', forL (gN 3) (fSeq (fAsg (gN 2) (eCallB maxD (aIo 2 (aCons (eCallB sumD (aCons (eLc [4] (iRng1 (aCons (eCallB lenD (aIo 1 aNil)) aNil)) (gN 4) (tTst (eBin leD (eBin addD (eN 4) (eN 3)) (eN 0))) (eIxN 1 (eN 4))) aNil)) aNil)))) (fAsg (gN 1) (eBin addD (eBin addD (eLst (aCons (eC (.int 1)) aNil)) (eLc [4] (iRng1 (aCons (eBin subD (eCallB lenD (aIo 1 aNil)) (eC (.int 1))) aNil)) (gN 4) tYesF (eBin addD (eIxN 1 (eN 4)) (eIxN 1 (eBin addD (eN 4) (eC (.int 1))))))) (eLst (aCons (eC (.int 1)) aNil)))))
      (rngD 0 (b + 1).toNat) ⟨[some (.int b), some (.nd .lst true ((rowI 0).map D.int)), some (.int (fndI b 0)), none, none], none⟩ = .nx e' ∧ ∃ x, e' = ⟨[some (.int b), some (.nd .lst true ((rowI (0 + (rngD 0 (b + 1).toNat).length)).map D.int)), some (.int (fndI b (0 + (rngD 0 (b + 1).toNat).length))), x, none], none⟩ := by
    refine forL_ix (j := 0) (I := fun i e => ∃ x, e = ⟨[some (.int b), some (.nd .lst true ((rowI i).map D.int)), some (.int (fndI b i)), x, none], none⟩) ⟨none, rfl⟩ fun i x hx e he => ?_
    obtain ⟨x0, rfl⟩ := he
    rw [Nat.zero_add]
    obtain ⟨hi, rfl⟩ := rngD_at hx
    rw [Int.zero_add]
    have hlen := rowI_length i
    have e0 : (rngD 0 (rowI i).length).map (fun d => match d with | .int j => .int (((rowI i)[j.toNat]?).getD 0) | d => d) = ((List.range (rowI i).length).map fun j => ((rowI i)[j]?).getD 0).map D.int := by
      unfold rngD
      rw [List.map_map, List.map_map]
      apply List.map_congr_left
      intro k _
      simp
    have c1 := lcL_flt (vs := [4]) (g := gN 4) (tt := tTst (eBin leD (eBin addD (eN 4) (eN 3)) (eN 0))) (el := eIxN 1 (eN 4)) (base := ⟨[some (.int b), some (.nd .lst true ((rowI i).map D.int)), some (.int (fndI b i)), some (.int i), none], none⟩)
      (p := fun d => match d with | .int j => decide (j + (i : Int) ≤ b) | _ => false) (y := fun d => match d with | .int j => .int (((rowI i)[j.toNat]?).getD 0) | d => d) (xs := rngD 0 (rowI i).length) (acc := []) (fun x hx => by
        obtain ⟨j, hj, rfl⟩ := rngD_mem hx
        have x1 : ixN (rowI i).length (j : Int) = some j := ixN_nat hj
        have x2 := at_get hj
        have x3 := set_same x2
        refine ⟨_, _, by simp; rfl, by simp; rfl, fun _ => ⟨_, by simp [x1, x2, x3, -List.getElem?_map]; rfl, by simp⟩, fun _ => by simp⟩) (by simp [lim]; omega)
    have f1 : (rngD 0 (rowI i).length).filter (fun d => match d with | .int j => decide (j + (i : Int) ≤ b) | _ => false) = ((List.range (rowI i).length).filter fun j : Nat => decide ((j : Int) + (i : Int) ≤ b)).map fun j : Nat => D.int j := by
      unfold rngD
      rw [List.filter_map]
      simp
      rfl
    have f2 : (((List.range (rowI i).length).filter fun j : Nat => decide ((j : Int) + (i : Int) ≤ b)).map fun j : Nat => D.int j).map (fun d => match d with | .int j => .int (((rowI i)[j.toNat]?).getD 0) | d => d) = (((List.range (rowI i).length).filter fun j : Nat => decide ((j : Int) + (i : Int) ≤ b)).map fun j => ((rowI i)[j]?).getD 0).map D.int := by
      rw [List.map_map, List.map_map]
      apply List.map_congr_left
      intro k _
      simp
    rw [List.nil_append, f1, f2] at c1
    have c2 := lcL_map (vs := [4]) (g := gN 4) (tt := tYesF) (el := eBin addD (eIxN 1 (eN 4)) (eIxN 1 (eBin addD (eN 4) (eC (.int 1))))) (base := ⟨[some (.int b), some (.nd .lst true ((rowI i).map D.int)), some (.int (fndI b (i + 1))), some (.int i), none], none⟩)
      (y := fun d => match d with | .int j => .int (((rowI i)[j.toNat]?).getD 0 + ((rowI i)[j.toNat + 1]?).getD 0) | d => d) (xs := rngD 0 ((rowI i).length - 1)) (acc := []) (fun x hx => by
        obtain ⟨j, hj, rfl⟩ := rngD_mem hx
        have x1 : ixN (rowI i).length (j : Int) = some j := ixN_nat (by omega)
        have x2 := at_get (r := rowI i) (j := j) (by omega)
        have x3 := set_same x2
        have y1 : ixN (rowI i).length ((j : Int) + 1) = some (j + 1) := ixN_nat (j := j + 1) (by omega)
        have y2 := at_get (r := rowI i) (j := j + 1) (by omega)
        have y3 := set_same y2
        exact ⟨_, _, _, by simp; rfl, rfl, by simp [x1, x2, x3, y1, y2, y3, -List.getElem?_map]; rfl, by simp⟩) (by simp [lim]; omega)
    have e3 : (rngD 0 ((rowI i).length - 1)).map (fun d => match d with | .int j => .int (((rowI i)[j.toNat]?).getD 0 + ((rowI i)[j.toNat + 1]?).getD 0) | d => d) = ((List.range ((rowI i).length - 1)).map fun j => ((rowI i)[j]?).getD 0 + ((rowI i)[j + 1]?).getD 0).map D.int := by
      unfold rngD
      rw [List.map_map, List.map_map]
      apply List.map_congr_left
      intro k _
      simp
    rw [List.nil_append, e3] at c2
    have hr1 : rngA1 [.int ((rowI i).length : Int)] = some (rngD 0 (rowI i).length) := rngA1_ok (by omega) (by omega)
    have hr2 : rngA1 [.int ((rowI i).length - 1 : Int)] = some (rngD 0 ((rowI i).length - 1)) := by
      have h := rngA1_ok (j := ((rowI i).length - 1 : Int)) (by omega) (by omega)
      rw [h]
      congr 2
      omega
    have s1 : ∀ T : FS, fSeq (fAsg (gN 2) (eCallB maxD (aIo 2 (aCons (eCallB sumD (aCons (eLc [4] (iRng1 (aCons (eCallB lenD (aIo 1 aNil)) aNil)) (gN 4) (tTst (eBin leD (eBin addD (eN 4) (eN 3)) (eN 0))) (eIxN 1 (eN 4))) aNil)) aNil)))) T ⟨[some (.int b), some (.nd .lst true ((rowI i).map D.int)), some (.int (fndI b i)), some (.int i), none], none⟩ = T ⟨[some (.int b), some (.nd .lst true ((rowI i).map D.int)), some (.int (fndI b (i + 1))), some (.int i), none], none⟩ := by
      intro T
      unfold fSeq
      simp [hr1, c1, -rngA1_ok, -List.map_map]
      rfl
    refine ⟨_, ⟨[some (.int b), some (.nd .lst true ((rowI (i + 1)).map D.int)), some (.int (fndI b (i + 1))), some (.int i), none], none⟩, by simp; rfl, ?_, _, rfl⟩
    rw [s1]
    have l1 : 1 + ((rowI i).length - 1) ≤ 16000000 := by omega
    have l2 : 1 + ((rowI i).length - 1) + 1 ≤ 16000000 := by omega
    have l3 : (rowI i).length - 1 + 1 ≤ 16000000 := by omega
    have l4 : (rowI i).length - 1 + 1 + 1 ≤ 16000000 := by omega
    simp [hr2, c2, -rngA1_ok, -List.map_map, lim, addD, l1, l2, l3, l4]
    show _ = (nxtR (rowI i)).map D.int
    unfold nxtR
    rw [List.map_append, List.map_cons]
    rfl
  obtain ⟨e', hl, x, rfl⟩ := hl
  unfold F_law_e_budget B_law_e_budget
  have hl' := hl
  simp only [Nat.zero_add, rngD_length, show (rowI 0).map D.int = [.int 1, .int 1] from rfl, show fndI b 0 = 0 from rfl] at hl'
  simp [fDef, fSeq, hr, lim, -rngA1_ok, hl']
theorem bud_eq : ∀ b < 42, budT (b : Nat) = fndI (b : Nat) (b + 1) ∧ (budT (b : Nat)).natAbs < 2 ^ 62 := by decide +kernel
theorem budget_ok {b : Int} (h0 : 0 ≤ b) (h1 : b < 42) : ∃ x : Int, F_budget_due [.int b] = .ok (.int x) [none] ∧ F_law_e_budget [.int b] = .ok (.int x) [none] ∧ x.natAbs < 2 ^ 62 := by
  have h := bud_eq b.toNat (by omega)
  rw [Int.toNat_of_nonneg h0] at h
  refine ⟨budT b, budget_is h0 h1, ?_, h.2⟩
  rw [ebudget_is h0 h1, h.1]
  congr 3
  omega
def askL (n late m low : Int) : List D := [.nd .tup false [.int 0, .nd .lst false [.int (low + 1), .int late, .int m]], .nd .tup false [.int 0, .nd .lst false [.int n, .int low, .int m]], .nd .tup false [.int 0, .nd .lst false [.int n, .int late, .int (low + 1)]], .nd .tup false [.int 1, .nd .lst false [.int low, .int n, .int late]], .nd .tup false [.int 1, .nd .lst false [.int late, .int (low + 1), .int m]], .nd .tup false [.int 1, .nd .lst false [.int late, .int n, .int low]], .nd .tup false [.int 2, .nd .lst false [.int low]]]
abbrev asks (n late m low : Int) : D := .nd .lst false (askL n late m low)
def frR (s1 : D) (n late m low : Int) (i : Nat) (x7 x8 : Option D) : En := ⟨[some s1, some (.int n), some (.int late), some (.int m), some (.nd .lst true (List.replicate i (.str "numbers"))), some (.int low), some (asks n late m low), x7, x8, none, none], none⟩
def frZ (s1 : D) (n late m low : Int) (x7 x8 : Option D) : En := ⟨[some s1, some (.int n), some (.int late), some (.int m), some (.nd .lst false (List.replicate 7 (.str "numbers"))), some (.int low), some (asks n late m low), x7, x8, none, none], none⟩
theorem refusals_ok {n late m : Int} {k : Nat} {s : D} (h : Stk (k + 1) s) : ∃ s', F_law_e_refusals [s, .int n, .int late, .int m] = .ok (.bl true) [some s', none, none, none] := by
  obtain ⟨r, s1, e1, a1, b1, k1⟩ := pick_ok (m := 9) h (by decide) (by decide)
  unfold F_law_e_refusals B_law_e_refusals
  have l1 : -1 - r < 0 := by omega
  have l2 : -1 - r + 1 < 1 := by omega
  have w1 := words_no (n := -1 - r + 1) (late := late) (m := m) (by omega)
  have w2 := words_no (n := n) (late := -1 - r) (m := m) (by omega)
  have w3 := words_no (n := n) (late := late) (m := -1 - r + 1) (by omega)
  have w4 := end_no (n := -1 - r) (late := n) (m := late) (by omega)
  have w5 := end_no (n := late) (late := -1 - r + 1) (m := m) (by omega)
  have w6 := end_no (n := late) (late := n) (m := -1 - r) (by omega)
  have w7 := budget_no (n := -1 - r) (by omega)
  have fin : ∀ x7 x8 : Option D, fRet (eBin eqD (eN 4) (eLc [10] (iE (eN 6)) (gN 10) tYesF (eC (.str "numbers")))) (frR s1 n late m (-1 - r) 7 x7 x8) = .rt (.bl true) (frZ s1 n late m (-1 - r) x7 x8) := by
    intro x7 x8
    unfold frR frZ
    have hs : PyData.strOk "numbers" = true := strOk_ofString _
    simp [askL, lcL, lim, List.replicate_succ]
    simp [eqD, eqOk, eqOks, pyd, pyds, SeqAt.shaped, PyData.eqv, PyData.canLay0, PyData.depth, PyData.eqvAll, PyData.canLayAll0, PyData.depthAll, hs, askL]
  have hloop : ∃ e', forL (gT 2 (gsCons (gN 7) (gsCons (gN 8) gsNil))) (fTryAs 9 isA_BadRow (fIf (tTst (eBin eqD (eN 7) (eC (.int 0)))) (fExpr (eAppN 4 (eCall 3 F_words_due (aCons (eIxN 8 (eC (.int 0))) (aCons (eIxN 8 (eC (.int 1))) (aCons (eIxN 8 (eC (.int 2))) aNil)))))) (fIf (tTst (eBin eqD (eN 7) (eC (.int 1)))) (fExpr (eAppN 4 (eCall 3 F_session_end (aCons (eIxN 8 (eC (.int 0))) (aCons (eIxN 8 (eC (.int 1))) (aCons (eIxN 8 (eC (.int 2))) aNil)))))) (fExpr (eAppN 4 (eCall 1 F_budget_due (aCons (eIxN 8 (eC (.int 0))) aNil)))))) (fExpr (eAppN 4 (eXf "BadRow" "what")))) (askL n late m (-1 - r)) (frR s1 n late m (-1 - r) 0 none none) = .nx e' ∧
      ∃ x7 x8 : Option D, e' = frR s1 n late m (-1 - r) 7 x7 x8 := by
    refine forL_ix (j := 0) (I := fun i e => ∃ x7 x8 : Option D, e = frR s1 n late m (-1 - r) i x7 x8) ⟨none, none, rfl⟩ fun i x hx e he => ?_
    obtain ⟨x7, x8, rfl⟩ := he
    have hi : i < 7 := (List.getElem?_eq_some_iff.mp hx).1
    rw [Nat.zero_add]
    have hi2 : i < 16000000 := by omega
    have hm := List.mem_of_getElem? hx
    simp only [askL, List.mem_cons, List.not_mem_nil, or_false] at hm
    rcases hm with rfl | rfl | rfl | rfl | rfl | rfl | rfl
    · refine ⟨_, frR s1 n late m (-1 - r) (i + 1) (some (.int 0)) (some (.nd .lst false [.int (-1 - r + 1), .int late, .int m])), by unfold frR; simp; rfl, ?_, _, _, rfl⟩
      rw [try_exc (x := ⟨"BadRow", ["what"], [.str "numbers"]⟩) (by simp [eqD_int, ixN, w1, lim, hi2]; exact ⟨rfl, rfl⟩) (by simp [isA_BadRow]) (by simp)]
      simp [eXf, lim, hi2, ← List.replicate_succ', frR]
    · refine ⟨_, frR s1 n late m (-1 - r) (i + 1) (some (.int 0)) (some (.nd .lst false [.int n, .int (-1 - r), .int m])), by unfold frR; simp; rfl, ?_, _, _, rfl⟩
      rw [try_exc (x := ⟨"BadRow", ["what"], [.str "numbers"]⟩) (by simp [eqD_int, ixN, w2, lim, hi2]; exact ⟨rfl, rfl⟩) (by simp [isA_BadRow]) (by simp)]
      simp [eXf, lim, hi2, ← List.replicate_succ', frR]
    · refine ⟨_, frR s1 n late m (-1 - r) (i + 1) (some (.int 0)) (some (.nd .lst false [.int n, .int late, .int (-1 - r + 1)])), by unfold frR; simp; rfl, ?_, _, _, rfl⟩
      rw [try_exc (x := ⟨"BadRow", ["what"], [.str "numbers"]⟩) (by simp [eqD_int, ixN, w3, lim, hi2]; exact ⟨rfl, rfl⟩) (by simp [isA_BadRow]) (by simp)]
      simp [eXf, lim, hi2, ← List.replicate_succ', frR]
    · refine ⟨_, frR s1 n late m (-1 - r) (i + 1) (some (.int 1)) (some (.nd .lst false [.int (-1 - r), .int n, .int late])), by unfold frR; simp; rfl, ?_, _, _, rfl⟩
      rw [try_exc (x := ⟨"BadRow", ["what"], [.str "numbers"]⟩) (by simp [eqD_int, ixN, w4, lim, hi2]; exact ⟨rfl, rfl⟩) (by simp [isA_BadRow]) (by simp)]
      simp [eXf, lim, hi2, ← List.replicate_succ', frR]
    · refine ⟨_, frR s1 n late m (-1 - r) (i + 1) (some (.int 1)) (some (.nd .lst false [.int late, .int (-1 - r + 1), .int m])), by unfold frR; simp; rfl, ?_, _, _, rfl⟩
      rw [try_exc (x := ⟨"BadRow", ["what"], [.str "numbers"]⟩) (by simp [eqD_int, ixN, w5, lim, hi2]; exact ⟨rfl, rfl⟩) (by simp [isA_BadRow]) (by simp)]
      simp [eXf, lim, hi2, ← List.replicate_succ', frR]
    · refine ⟨_, frR s1 n late m (-1 - r) (i + 1) (some (.int 1)) (some (.nd .lst false [.int late, .int n, .int (-1 - r)])), by unfold frR; simp; rfl, ?_, _, _, rfl⟩
      rw [try_exc (x := ⟨"BadRow", ["what"], [.str "numbers"]⟩) (by simp [eqD_int, ixN, w6, lim, hi2]; exact ⟨rfl, rfl⟩) (by simp [isA_BadRow]) (by simp)]
      simp [eXf, lim, hi2, ← List.replicate_succ', frR]
    · refine ⟨_, frR s1 n late m (-1 - r) (i + 1) (some (.int 2)) (some (.nd .lst false [.int (-1 - r)])), by unfold frR; simp; rfl, ?_, _, _, rfl⟩
      rw [try_exc (x := ⟨"BadRow", ["what"], [.str "numbers"]⟩) (by simp [eqD_int, ixN, w7, lim, hi2]; exact ⟨rfl, rfl⟩) (by simp [isA_BadRow]) (by simp)]
      simp [eXf, lim, hi2, ← List.replicate_succ', frR]
  obtain ⟨e', hloop, x7, x8, rfl⟩ := hloop
  refine ⟨s1, fDef_rt ?_⟩
  refine seq_go (P := fun r => ∃ e, r = .rt (.bl true) e ∧ outs [0] 0 4 e.sl = [some s1, none, none, none]) ⟨[some s, some (.int n), some (.int late), some (.int m), some (.nd .lst true []), none, none, none, none, none, none], none⟩ (by simp [lim]) ?_
  refine seq_go (P := fun r => ∃ e, r = .rt (.bl true) e ∧ outs [0] 0 4 e.sl = [some s1, none, none, none]) ⟨[some s1, some (.int n), some (.int late), some (.int m), some (.nd .lst true []), some (.int (-1 - r)), none, none, none, none, none], none⟩ (by simp [e1]) ?_
  refine seq_go (P := fun r => ∃ e, r = .rt (.bl true) e ∧ outs [0] 0 4 e.sl = [some s1, none, none, none]) ⟨[some s1, some (.int n), some (.int late), some (.int m), some (.nd .lst true []), some (.int (-1 - r)), some (.nd .lst true (askL n late m (-1 - r))), none, none, none, none], none⟩ (by simp [lim, askL]) ?_
  refine seq_go (P := fun r => ∃ e, r = .rt (.bl true) e ∧ outs [0] 0 4 e.sl = [some s1, none, none, none]) (frR s1 n late m (-1 - r) 7 x7 x8) ?_ ⟨_, fin x7 x8, by simp [frZ, outs]⟩
  rw [fFor_ap]
  have hi : iE (eN 6) ⟨[some s1, some (.int n), some (.int late), some (.int m), some (.nd .lst true []), some (.int (-1 - r)), some (.nd .lst true (askL n late m (-1 - r))), none, none, none, none], none⟩ = .ok (askL n late m (-1 - r)) (frR s1 n late m (-1 - r) 0 none none) := by
    have : frzs (askL n late m (-1 - r)) = askL n late m (-1 - r) := by simp [askL]
    simp [frR, this]
  rw [hi]
  exact hloop
theorem log2_1920 {n : Nat} (h : n < 2 ^ 60) : n.log2 < 1920 := by
  by_cases z : n = 0
  · subst z; simp
  · have := (Nat.log2_lt (n := n) (k := 60) z).mpr h
    omega
theorem wC_small {n late m : Int} (hn : 1 ≤ n) (hl : 0 ≤ late) (hm : 1 ≤ m) (hm2 : m < 2 ^ 50) (hl2 : late < 2 ^ 50) : (wC n late m).natAbs < 2 ^ 60 := by
  have : 0 ≤ wC n late m ∧ wC n late m < 2 ^ 52 := by
    unfold wC
    grind
  omega
theorem okS_words {n late m : Int} (hn : 1 ≤ n) (hl : 0 ≤ late) (hm : 1 ≤ m) (hm2 : m < 2 ^ 50) (hl2 : late < 2 ^ 50) : okS 8 (.nd .tup false [.int (wC n late m), wA n late]) = true := by
  have h1 := log2_1920 (wC_small hn hl hm hm2 hl2)
  have h2 : okS 7 (wA n late) = true := by
    unfold wA
    by_cases c : n / 2 = 0
    · rw [if_pos c]; rfl
    · rw [if_neg c]
      have : ((if (if late / 2 + 1 < n / 2 then late / 2 + 1 else n / 2) > 2 then (if late / 2 + 1 < n / 2 then late / 2 + 1 else n / 2) else 2)).natAbs < 2 ^ 60 := by
        have : 0 ≤ (if (if late / 2 + 1 < n / 2 then late / 2 + 1 else n / 2) > 2 then (if late / 2 + 1 < n / 2 then late / 2 + 1 else n / 2) else 2) ∧ (if (if late / 2 + 1 < n / 2 then late / 2 + 1 else n / 2) > 2 then (if late / 2 + 1 < n / 2 then late / 2 + 1 else n / 2) else 2) < 2 ^ 52 := by grind
        omega
      exact decide_eq_true (log2_1920 this)
  simp [okS, h1]
  exact h2
theorem okS_int {n : Nat} {i : Int} (h : i.natAbs < 2 ^ 60) : okS (n + 1) (.int i) = true := decide_eq_true (log2_1920 h)
/-- the frame of law -/
def fr (ns : List Int) (s : D) (n late m : Int) (x5 f step x8 most x10 x11 x12 x13 x14 : Option D) : En :=
  ⟨[some (.nd .wl false (ns.map D.int)), some s, some (.int n), some (.int late), some (.int m), x5, f, step, x8, most, x10, x11, x12, x13, x14], none⟩
abbrev Pt : So → Prop := fun r => ∃ e, r = .rt (.bl true) e
def L1in : FS := fFor (iE (eLst (aCons (eN 4) (aCons (eC (.int 1)) aNil)))) (gN 13) (fIf (tNt (tTst (eCall 2 (F_law_same 8) (aCons (eCall 3 F_words_due (aCons (eN 5) (aCons (eN 11) (aCons (eN 13) aNil)))) (aCons (eCall 3 F_law_e_words (aCons (eN 5) (aCons (eN 11) (aCons (eN 13) aNil)))) aNil))))) (fRet (eC (.bl false))) fNext)
def L1mid : FS := fFor (iE (eLst (aCons (eN 3) (aCons (eBin addD (eN 3) (eC (.int 1))) (aCons (eCallB maxD (aCons (eC (.int 0)) (aCons (eBin subD (eN 3) (eC (.int 1))) aNil))) (aCons (eC (.int 0)) aNil)))))) (gN 11) L1in
theorem l1in_ok {ns : List Int} {s : D} {n late m t l : Int} {x13 : Option D} (hm : 1 ≤ m) (hm2 : m < 2 ^ 50) (ht : 1 ≤ t) (hl : 0 ≤ l) (hl2 : l < 2 ^ 50) :
    ∃ x13', L1in (fr ns s n late m (some (.int t)) none none none none none (some (.int l)) none x13 none) = .nx (fr ns s n late m (some (.int t)) none none none none none (some (.int l)) none x13' none) := by
  unfold L1in
  rw [fFor_ap]
  have hi : iE (eLst (aCons (eN 4) (aCons (eC (.int 1)) aNil))) (fr ns s n late m (some (.int t)) none none none none none (some (.int l)) none x13 none) = .ok [.int m, .int 1] (fr ns s n late m (some (.int t)) none none none none none (some (.int l)) none x13 none) := by
    unfold fr; simp [lim]
  rw [hi, Rs.toS_ok]
  have hb : ∀ c : Int, 1 ≤ c → c < 2 ^ 50 → (fIf (tNt (tTst (eCall 2 (F_law_same 8) (aCons (eCall 3 F_words_due (aCons (eN 5) (aCons (eN 11) (aCons (eN 13) aNil)))) (aCons (eCall 3 F_law_e_words (aCons (eN 5) (aCons (eN 11) (aCons (eN 13) aNil)))) aNil))))) (fRet (eC (.bl false))) fNext) (fr ns s n late m (some (.int t)) none none none none none (some (.int l)) none (some (.int c)) none) = .nx (fr ns s n late m (some (.int t)) none none none none none (some (.int l)) none (some (.int c)) none) := fun c h1 h2 => by
    have w := words_ok ht hl h1
    have e := ewords_ok ht hl h1
    have q := same_ok 8 _ _ rfl (okS_words ht hl h1 h2 hl2)
    unfold fr
    simp [w, e, q]
  exact ⟨_, by rw [forL_step (by rfl) (hb m hm hm2), forL_step (by rfl) (hb 1 (by decide) (by decide))]; rfl⟩
theorem l1mid_ok {ns : List Int} {s : D} {n late m t : Int} {x11 x13 : Option D} (hm : 1 ≤ m) (hm2 : m < 2 ^ 50) (ht : 1 ≤ t) (hl : 0 ≤ late) (hl2 : late < 2 ^ 40) :
    ∃ x11' x13', L1mid (fr ns s n late m (some (.int t)) none none none none none x11 none x13 none) = .nx (fr ns s n late m (some (.int t)) none none none none none x11' none x13' none) := by
  unfold L1mid
  rw [fFor_ap]
  have hi : iE (eLst (aCons (eN 3) (aCons (eBin addD (eN 3) (eC (.int 1))) (aCons (eCallB maxD (aCons (eC (.int 0)) (aCons (eBin subD (eN 3) (eC (.int 1))) aNil))) (aCons (eC (.int 0)) aNil))))) (fr ns s n late m (some (.int t)) none none none none none x11 none x13 none) = .ok [.int late, .int (late + 1), .int (if late - 1 > 0 then late - 1 else 0), .int 0] (fr ns s n late m (some (.int t)) none none none none none x11 none x13 none) := by
    unfold fr; simp [lim]
  rw [hi, Rs.toS_ok]
  obtain ⟨e', h1, x11', x13', rfl⟩ := forL_inv (g := gN 11) (b := L1in) (I := fun e => ∃ x11' x13', e = fr ns s n late m (some (.int t)) none none none none none x11' none x13' none) (xs := [.int late, .int (late + 1), .int (if late - 1 > 0 then late - 1 else 0), .int 0]) ⟨x11, x13, rfl⟩ (fun x hx e he => by
    obtain ⟨y11, y13, rfl⟩ := he
    obtain ⟨l, rfl, h0, h1⟩ : ∃ l : Int, x = .int l ∧ 0 ≤ l ∧ l < 2 ^ 50 := by
      simp only [List.mem_cons, List.not_mem_nil, or_false] at hx
      rcases hx with rfl | rfl | rfl | rfl
      · exact ⟨_, rfl, by omega, by omega⟩
      · exact ⟨_, rfl, by omega, by omega⟩
      · exact ⟨_, rfl, by split <;> omega, by split <;> omega⟩
      · exact ⟨_, rfl, by omega, by omega⟩
    obtain ⟨z, hz⟩ := l1in_ok (ns := ns) (s := s) (n := n) (late := late) (x13 := y13) hm hm2 ht h0 h1
    exact ⟨_, _, by rfl, hz, _, _, rfl⟩)
  exact ⟨x11', x13', h1⟩
def L1 : FS := fFor (iE (eLst (aCons (eN 2) (aCons (eCallB maxD (aCons (eC (.int 1)) (aCons (eBin subD (eN 2) (eC (.int 1))) aNil))) (aCons (eBin addD (eN 2) (eC (.int 1))) (aCons (eC (.int 1)) (aCons (eC (.int 2)) aNil))))))) (gN 5) L1mid
theorem l1_ok {ns : List Int} {s : D} {n late m : Int} (hn : 1 ≤ n) (hm : 1 ≤ m) (hm2 : m < 2 ^ 50) (hl : 0 ≤ late) (hl2 : late < 2 ^ 40) :
    ∃ x5 x11 x13, L1 (fr ns s n late m none none none none none none none none none none) = .nx (fr ns s n late m x5 none none none none none x11 none x13 none) := by
  unfold L1
  rw [fFor_ap]
  have hi : iE (eLst (aCons (eN 2) (aCons (eCallB maxD (aCons (eC (.int 1)) (aCons (eBin subD (eN 2) (eC (.int 1))) aNil))) (aCons (eBin addD (eN 2) (eC (.int 1))) (aCons (eC (.int 1)) (aCons (eC (.int 2)) aNil)))))) (fr ns s n late m none none none none none none none none none none) = .ok [.int n, .int (if n - 1 > 1 then n - 1 else 1), .int (n + 1), .int 1, .int 2] (fr ns s n late m none none none none none none none none none none) := by
    unfold fr; simp [lim]
  rw [hi, Rs.toS_ok]
  obtain ⟨e', h1, x5, x11, x13, rfl⟩ := forL_inv (g := gN 5) (b := L1mid) (I := fun e => ∃ x5 x11 x13, e = fr ns s n late m x5 none none none none none x11 none x13 none) (xs := [.int n, .int (if n - 1 > 1 then n - 1 else 1), .int (n + 1), .int 1, .int 2]) ⟨none, none, none, rfl⟩ (fun x hx e he => by
    obtain ⟨y5, y11, y13, rfl⟩ := he
    obtain ⟨t, rfl, h0⟩ : ∃ t : Int, x = .int t ∧ 1 ≤ t := by
      simp only [List.mem_cons, List.not_mem_nil, or_false] at hx
      rcases hx with rfl | rfl | rfl | rfl | rfl
      · exact ⟨_, rfl, by omega⟩
      · exact ⟨_, rfl, by split <;> omega⟩
      · exact ⟨_, rfl, by omega⟩
      · exact ⟨_, rfl, by omega⟩
      · exact ⟨_, rfl, by omega⟩
    obtain ⟨z, z2, hz⟩ := l1mid_ok (ns := ns) (s := s) (n := n) (late := late) (x11 := y11) (x13 := y13) hm hm2 h0 hl hl2
    exact ⟨_, _, by rfl, hz, _, _, _, rfl⟩)
  exact ⟨x5, x11, x13, h1⟩
def L2in : FS := fFor (iE (eLst (aCons (eN 2) (aCons (eBin addD (eN 2) (eC (.int 1))) aNil)))) (gN 5) (fSeq (fAsg (gN 14) (eBin subD (eBin subD (eN 5) (eBin mulD (eC (.int 2)) (eN 12))) (eBin modD (eCallB intD (aIo 8 aNil)) (eC (.int 2))))) (fIf (tNt (tTst (eCall 2 (F_law_same 8) (aCons (eCall 3 F_session_end (aCons (eN 8) (aCons (eN 5) (aCons (eN 12) aNil)))) (aCons (eBin addD (eN 8) (eIf (tTst (eBin gtD (eN 14) (eC (.int 0)))) (eN 14) (eC (.int 0)))) aNil))))) (fRet (eC (.bl false))) fNext))
theorem l2in_ok {ns : List Int} {s : D} {n late m st lo : Int} {x5 f step x11 x13 x14 : Option D} (hn : 1 ≤ n) (hn2 : n < 2 ^ 50) (h0 : 0 ≤ st) (h1 : st < 2 ^ 50) (h2 : 0 ≤ lo) (h3 : lo < 2 ^ 50) :
    ∃ x5' x14', L2in (fr ns s n late m x5 f step (some (.int st)) none none x11 (some (.int lo)) x13 x14) = .nx (fr ns s n late m x5' f step (some (.int st)) none none x11 (some (.int lo)) x13 x14') := by
  unfold L2in
  rw [fFor_ap]
  have hi : iE (eLst (aCons (eN 2) (aCons (eBin addD (eN 2) (eC (.int 1))) aNil))) (fr ns s n late m x5 f step (some (.int st)) none none x11 (some (.int lo)) x13 x14) = .ok [.int n, .int (n + 1)] (fr ns s n late m x5 f step (some (.int st)) none none x11 (some (.int lo)) x13 x14) := by
    unfold fr; simp [lim]
  rw [hi, Rs.toS_ok]
  have hb : ∀ (t : Int) (x14 : Option D), 1 ≤ t → t < 2 ^ 51 → (fSeq (fAsg (gN 14) (eBin subD (eBin subD (eN 5) (eBin mulD (eC (.int 2)) (eN 12))) (eBin modD (eCallB intD (aIo 8 aNil)) (eC (.int 2))))) (fIf (tNt (tTst (eCall 2 (F_law_same 8) (aCons (eCall 3 F_session_end (aCons (eN 8) (aCons (eN 5) (aCons (eN 12) aNil)))) (aCons (eBin addD (eN 8) (eIf (tTst (eBin gtD (eN 14) (eC (.int 0)))) (eN 14) (eC (.int 0)))) aNil))))) (fRet (eC (.bl false))) fNext)) (fr ns s n late m (some (.int t)) f step (some (.int st)) none none x11 (some (.int lo)) x13 x14) = .nx (fr ns s n late m (some (.int t)) f step (some (.int st)) none none x11 (some (.int lo)) x13 (some (.int (t - 2 * lo - st % 2)))) := fun t x14 a b => by
    have e := end_ok h0 a h2 (by omega) (by omega)
    have ee : sE st t lo = st + (if 0 < t - 2 * lo - st % 2 then t - 2 * lo - st % 2 else 0) := by
      unfold sE
      have : st - 2 * (st / 2) = st % 2 := by omega
      rw [this]
    have m1 : mulOk 2 lo = true := mulOk_60 (by decide) (by omega)
    have q := same_ok 8 (.int (sE st t lo)) (.int (sE st t lo)) rfl (okS_int (by rw [ee]; split <;> omega))
    obtain ⟨g, hg⟩ : ∃ g : Int, t - 2 * lo - st % 2 = g := ⟨_, rfl⟩
    rw [ee] at e q
    rw [hg] at e q ⊢
    refine seq_go (P := fun r => r = _) (fr ns s n late m (some (.int t)) f step (some (.int st)) none none x11 (some (.int lo)) x13 (some (.int g))) ?_ ?_
    · unfold fr
      simp [m1, hg]
    · unfold fr
      simp [e, q]
  exact ⟨_, _, by rw [forL_step (by rfl) (hb n _ hn (by omega)), forL_step (by rfl) (hb (n + 1) _ (by omega) (by omega))]; rfl⟩
def L2mid : FS := fFor (iE (eLst (aCons (eN 6) (aCons (eBin addD (eN 6) (eC (.int 1))) (aCons (eCallB maxD (aCons (eC (.int 0)) (aCons (eBin subD (eN 6) (eC (.int 1))) aNil))) (aCons (eC (.int 0)) aNil)))))) (gN 12) L2in
theorem l2mid_ok {ns : List Int} {s : D} {n late m st f : Int} {x5 step x11 x12 x13 x14 : Option D} (hn : 1 ≤ n) (hn2 : n < 2 ^ 50) (h0 : 0 ≤ st) (h1 : st < 2 ^ 50) (h2 : 0 ≤ f) (h3 : f < 2 ^ 40) :
    ∃ x5' x12' x14', L2mid (fr ns s n late m x5 (some (.int f)) step (some (.int st)) none none x11 x12 x13 x14) = .nx (fr ns s n late m x5' (some (.int f)) step (some (.int st)) none none x11 x12' x13 x14') := by
  unfold L2mid
  rw [fFor_ap]
  have hi : iE (eLst (aCons (eN 6) (aCons (eBin addD (eN 6) (eC (.int 1))) (aCons (eCallB maxD (aCons (eC (.int 0)) (aCons (eBin subD (eN 6) (eC (.int 1))) aNil))) (aCons (eC (.int 0)) aNil))))) (fr ns s n late m x5 (some (.int f)) step (some (.int st)) none none x11 x12 x13 x14) = .ok [.int f, .int (f + 1), .int (if f - 1 > 0 then f - 1 else 0), .int 0] (fr ns s n late m x5 (some (.int f)) step (some (.int st)) none none x11 x12 x13 x14) := by
    unfold fr; simp [lim]
  rw [hi, Rs.toS_ok]
  obtain ⟨e', h1, x5', x12', x14', rfl⟩ := forL_inv (g := gN 12) (b := L2in) (I := fun e => ∃ x5' x12' x14', e = fr ns s n late m x5' (some (.int f)) step (some (.int st)) none none x11 x12' x13 x14') (xs := [.int f, .int (f + 1), .int (if f - 1 > 0 then f - 1 else 0), .int 0]) ⟨x5, x12, x14, rfl⟩ (fun x hx e he => by
    obtain ⟨y5, y12, y14, rfl⟩ := he
    obtain ⟨l, rfl, g0, g1⟩ : ∃ l : Int, x = .int l ∧ 0 ≤ l ∧ l < 2 ^ 50 := by
      simp only [List.mem_cons, List.not_mem_nil, or_false] at hx
      rcases hx with rfl | rfl | rfl | rfl
      · exact ⟨_, rfl, by omega, by omega⟩
      · exact ⟨_, rfl, by omega, by omega⟩
      · exact ⟨_, rfl, by split <;> omega, by split <;> omega⟩
      · exact ⟨_, rfl, by omega, by omega⟩
    obtain ⟨z, z2, hz⟩ := l2in_ok (ns := ns) (s := s) (n := n) (late := late) (m := m) (x5 := y5) (f := some (.int f)) (step := step) (x11 := x11) (x13 := x13) (x14 := y14) hn hn2 h0 h1 g0 g1
    exact ⟨_, _, by rfl, hz, _, _, _, rfl⟩)
  exact ⟨x5', x12', x14', h1⟩
def L2 : FS := fFor (iE (eLst (aCons (eN 7) (aCons (eBin addD (eN 7) (eC (.int 1))) (aCons (eC (.int 0)) (aCons (eC (.int 1)) aNil)))))) (gN 8) L2mid
theorem l2_ok {ns : List Int} {s : D} {n late m f step : Int} {x5 x11 x13 : Option D} (hn : 1 ≤ n) (hn2 : n < 2 ^ 50) (h0 : 0 ≤ step) (h1 : step < 2 ^ 40) (h2 : 0 ≤ f) (h3 : f < 2 ^ 40) :
    ∃ x5' x8 x12' x14', L2 (fr ns s n late m x5 (some (.int f)) (some (.int step)) none none none x11 none x13 none) = .nx (fr ns s n late m x5' (some (.int f)) (some (.int step)) x8 none none x11 x12' x13 x14') := by
  unfold L2
  rw [fFor_ap]
  have hi : iE (eLst (aCons (eN 7) (aCons (eBin addD (eN 7) (eC (.int 1))) (aCons (eC (.int 0)) (aCons (eC (.int 1)) aNil))))) (fr ns s n late m x5 (some (.int f)) (some (.int step)) none none none x11 none x13 none) = .ok [.int step, .int (step + 1), .int 0, .int 1] (fr ns s n late m x5 (some (.int f)) (some (.int step)) none none none x11 none x13 none) := by
    unfold fr; simp [lim]
  rw [hi, Rs.toS_ok]
  obtain ⟨e', h1, x5', x8', x12', x14', rfl⟩ := forL_inv (g := gN 8) (b := L2mid) (I := fun e => ∃ x5' x8' x12' x14', e = fr ns s n late m x5' (some (.int f)) (some (.int step)) x8' none none x11 x12' x13 x14') (xs := [.int step, .int (step + 1), .int 0, .int 1]) ⟨x5, none, none, none, rfl⟩ (fun x hx e he => by
    obtain ⟨y5, y8, y12, y14, rfl⟩ := he
    obtain ⟨l, rfl, g0, g1⟩ : ∃ l : Int, x = .int l ∧ 0 ≤ l ∧ l < 2 ^ 50 := by
      simp only [List.mem_cons, List.not_mem_nil, or_false] at hx
      rcases hx with rfl | rfl | rfl | rfl
      · exact ⟨_, rfl, by omega, by omega⟩
      · exact ⟨_, rfl, by omega, by omega⟩
      · exact ⟨_, rfl, by omega, by omega⟩
      · exact ⟨_, rfl, by omega, by omega⟩
    obtain ⟨z, z2, z3, hz⟩ := l2mid_ok (ns := ns) (s := s) (n := n) (late := late) (m := m) (x5 := y5) (step := some (.int step)) (x11 := x11) (x12 := y12) (x13 := x13) (x14 := y14) hn hn2 g0 g1 h2 h3
    exact ⟨_, _, by rfl, hz, _, _, _, _, rfl⟩)
  exact ⟨x5', x8', x12', x14', h1⟩
def L3 : FS := fFor (iE (eLst (aCons (eN 9) (aCons (eBin addD (eN 9) (eC (.int 1))) (aCons (eC (.int 0)) aNil))))) (gN 10) (fIf (tNt (tTst (eCall 2 (F_law_same 8) (aCons (eCall 1 F_budget_due (aCons (eN 10) aNil)) (aCons (eCall 1 F_law_e_budget (aCons (eN 10) aNil)) aNil))))) (fRet (eC (.bl false))) fNext)
theorem l3_ok {ns : List Int} {s : D} {n late m most : Int} {x5 f step x8 x11 x12 x13 x14 : Option D} (h0 : 0 ≤ most) (h1 : most < 41) :
    ∃ x10, L3 (fr ns s n late m x5 f step x8 (some (.int most)) none x11 x12 x13 x14) = .nx (fr ns s n late m x5 f step x8 (some (.int most)) x10 x11 x12 x13 x14) := by
  unfold L3
  rw [fFor_ap]
  have hi : iE (eLst (aCons (eN 9) (aCons (eBin addD (eN 9) (eC (.int 1))) (aCons (eC (.int 0)) aNil)))) (fr ns s n late m x5 f step x8 (some (.int most)) none x11 x12 x13 x14) = .ok [.int most, .int (most + 1), .int 0] (fr ns s n late m x5 f step x8 (some (.int most)) none x11 x12 x13 x14) := by
    unfold fr; simp [lim]
  rw [hi, Rs.toS_ok]
  have hb : ∀ c : Int, 0 ≤ c → c < 42 → (fIf (tNt (tTst (eCall 2 (F_law_same 8) (aCons (eCall 1 F_budget_due (aCons (eN 10) aNil)) (aCons (eCall 1 F_law_e_budget (aCons (eN 10) aNil)) aNil))))) (fRet (eC (.bl false))) fNext) (fr ns s n late m x5 f step x8 (some (.int most)) (some (.int c)) x11 x12 x13 x14) = .nx (fr ns s n late m x5 f step x8 (some (.int most)) (some (.int c)) x11 x12 x13 x14) := fun c a b => by
    obtain ⟨x, e1, e2, e3⟩ := budget_ok a b
    have q := same_ok 8 (.int x) (.int x) rfl (decide_eq_true (by
      by_cases z : x.natAbs = 0
      · rw [z]; decide
      · have := (Nat.log2_lt (n := x.natAbs) (k := 62) z).mpr e3
        omega))
    unfold fr
    simp [e1, e2, q]
  exact ⟨_, by rw [forL_step (by rfl) (hb most h0 (by omega)), forL_step (by rfl) (hb (most + 1) (by omega) (by omega)), forL_step (by rfl) (hb 0 (by decide) (by decide))]; rfl⟩
theorem keeps : Keeps F_law := fun ns hl _ => by
  obtain ⟨s0, es, k0⟩ := source_ok (ns := ns) (k := 0) hl (by decide) (by decide)
  have k0 : Stk (100 + 1) s0 := by
    obtain ⟨a, b, c, e, p1, p2, p3, p4, p5⟩ := k0
    exact ⟨a, b, c, e, p1, p2, p3, p4, by omega⟩
  unfold F_law
  refine rt_go ?_
  show Pt _
  unfold B_law
  refine seq_go (P := Pt) ⟨[some (.nd .wl false (ns.map D.int)), some s0, none, none, none, none, none, none, none, none, none, none, none, none, none], none⟩ (by simp [es]) ?_
  -- n
  obtain ⟨r, s1, e1, a1, b1, k1⟩ := pick_ok (m := 2) k0 (by decide) (by decide)
  refine seq_goE ?_
  have hn : ∃ (n : Int) (s2 : D), 1 ≤ n ∧ n ≤ 99999 ∧ Stk 99 s2 ∧ (fAsg (gN 2) (eIf (tTst (eBin eqD (eCall 2 F_law_pick (aIo 1 (aCons (eC (.int 2)) aNil))) (eC (.int 0)))) (eBin addD (eC (.int 1)) (eCall 2 F_law_pick (aIo 1 (aCons (eC (.int 12)) aNil)))) (eBin addD (eC (.int 1)) (eCall 2 F_law_pick (aIo 1 (aCons (eC (.int 99999)) aNil)))))) ⟨[some (.nd .wl false (ns.map D.int)), some s0, none, none, none, none, none, none, none, none, none, none, none, none, none], none⟩ = .nx ⟨[some (.nd .wl false (ns.map D.int)), some s2, some (.int n), none, none, none, none, none, none, none, none, none, none, none, none], none⟩ := by
    by_cases c : r = 0
    · obtain ⟨r2, s2, e2, a2, b2, k2⟩ := pick_ok (m := 12) k1 (by decide) (by decide)
      exact ⟨1 + r2, s2, by omega, by omega, k2, by simp [e1, c, eqD_int, e2]⟩
    · obtain ⟨r2, s2, e2, a2, b2, k2⟩ := pick_ok (m := 99999) k1 (by decide) (by decide)
      exact ⟨1 + r2, s2, by omega, by omega, k2, by simp [e1, c, eqD_int, e2]⟩
  obtain ⟨n, s2, n0, n1, k2, hn⟩ := hn
  refine ⟨_, hn, ?_⟩
  -- late
  obtain ⟨late, s3, e3, a3, b3, k3⟩ := num_ok (near := n) k2 (by omega) (by omega)
  refine seq_go (P := Pt) ⟨[some (.nd .wl false (ns.map D.int)), some s3, some (.int n), some (.int late), none, none, none, none, none, none, none, none, none, none, none], none⟩ (by simp [e3]) ?_
  -- m
  obtain ⟨m, s4, e4, a4, b4, k4⟩ := num_ok (near := late / 2) k3 (by omega) (by omega)
  refine seq_go (P := Pt) (fr ns s4 n late (1 + m) none none none none none none none none none none) (by unfold fr; simp [e4]) ?_
  obtain ⟨x5, x11, x13, h1⟩ := l1_ok (ns := ns) (s := s4) (n := n) (late := late) (m := 1 + m) n0 (by omega) (by omega) a3 (by omega)
  refine seq_go (P := Pt) _ h1 ?_
  obtain ⟨f, s5, e5, a5, b5, k5⟩ := num_ok (near := n / 2) k4 (by omega) (by omega)
  refine seq_go (P := Pt) (fr ns s5 n late (1 + m) x5 (some (.int f)) none none none none x11 none x13 none) (by unfold fr; simp [e5]) ?_
  obtain ⟨step, s6, e6, a6, b6, k6⟩ := num_ok (near := n) k5 (by omega) (by omega)
  refine seq_go (P := Pt) (fr ns s6 n late (1 + m) x5 (some (.int f)) (some (.int step)) none none none x11 none x13 none) (by unfold fr; simp [e6]) ?_
  obtain ⟨y5, y8, y12, y14, h2⟩ := l2_ok (ns := ns) (s := s6) (n := n) (late := late) (m := 1 + m) (f := f) (step := step) (x5 := x5) (x11 := x11) (x13 := x13) n0 (by omega) a6 (by omega) a5 (by omega)
  refine seq_go (P := Pt) _ h2 ?_
  obtain ⟨r, s7, e7, a7, b7, k7⟩ := pick_ok (m := 4) k6 (by decide) (by decide)
  refine seq_goE ?_
  have hm : ∃ (most : Int) (s8 : D), 0 ≤ most ∧ most < 41 ∧ Stk 89 s8 ∧ (fAsg (gN 9) (eIf (tTst (eBin eqD (eCall 2 F_law_pick (aIo 1 (aCons (eC (.int 4)) aNil))) (eC (.int 0)))) (eCall 2 F_law_pick (aIo 1 (aCons (eC (.int 41)) aNil))) (eCall 2 F_law_pick (aIo 1 (aCons (eC (.int 12)) aNil))))) (fr ns s6 n late (1 + m) y5 (some (.int f)) (some (.int step)) y8 none none x11 y12 x13 y14) = .nx (fr ns s8 n late (1 + m) y5 (some (.int f)) (some (.int step)) y8 (some (.int most)) none x11 y12 x13 y14) := by
    by_cases c : r = 0
    · obtain ⟨r2, s2, e2, a2, b2, k2⟩ := pick_ok (m := 41) k7 (by decide) (by decide)
      exact ⟨r2, s2, by omega, by omega, k2, by unfold fr; simp [e7, c, eqD_int, e2]⟩
    · obtain ⟨r2, s2, e2, a2, b2, k2⟩ := pick_ok (m := 12) k7 (by decide) (by decide)
      exact ⟨r2, s2, by omega, by omega, k2, by unfold fr; simp [e7, c, eqD_int, e2]⟩
  obtain ⟨most, s8, m0, m1, k8, hm⟩ := hm
  refine ⟨_, hm, ?_⟩
  obtain ⟨x10, h3⟩ := l3_ok (ns := ns) (s := s8) (n := n) (late := late) (m := 1 + m) (x5 := y5) (f := some (.int f)) (step := some (.int step)) (x8 := y8) (x11 := x11) (x12 := y12) (x13 := x13) (x14 := y14) m0 m1
  refine seq_go (P := Pt) _ h3 ?_
  obtain ⟨s9, h4⟩ := refusals_ok (n := n) (late := late) (m := 1 + m) k8
  unfold fr
  simp [h4]
  exact ⟨_, rfl⟩
end K24

set_option Elab.async false
set_option linter.all false
set_option maxRecDepth 100000
set_option maxHeartbeats 4000000
/-! printed by gen.py: the end -/
namespace K24
open PySem L2 Bx Lw PyProof.Rows
theorem all_mk {P : Program} {w : World} {K : PySem.W.Frag} {h : Heap} {mg : Str → Option Value} {fa : Addr} {f_law_source f_law_pick f_law_e_number f_check_numbers f_words_due f_session_end f_choices f_budget_due f_law_e_refusals f_law_same f_law_e_budget f_law_e_words f_law c_BadRow fi_BadRow : Addr}
  {od_law_source an_law_source : Option Addr} {sl_law_source : Array (Option Value)} {oc_law_source kV_law_source dc_law_source pm_law_source cd_law_source ct_law_source : Value}
  {od_law_pick an_law_pick : Option Addr} {sl_law_pick : Array (Option Value)} {oc_law_pick kV_law_pick dc_law_pick pm_law_pick cd_law_pick ct_law_pick : Value}
  {od_law_e_number an_law_e_number : Option Addr} {sl_law_e_number : Array (Option Value)} {oc_law_e_number kV_law_e_number dc_law_e_number pm_law_e_number cd_law_e_number ct_law_e_number : Value}
  {od_check_numbers an_check_numbers : Option Addr} {sl_check_numbers : Array (Option Value)} {oc_check_numbers kV_check_numbers dc_check_numbers pm_check_numbers cd_check_numbers ct_check_numbers : Value}
  {od_words_due an_words_due : Option Addr} {sl_words_due : Array (Option Value)} {oc_words_due kV_words_due dc_words_due pm_words_due cd_words_due ct_words_due : Value}
  {od_session_end an_session_end : Option Addr} {sl_session_end : Array (Option Value)} {oc_session_end kV_session_end dc_session_end pm_session_end cd_session_end ct_session_end : Value}
  {od_choices an_choices : Option Addr} {sl_choices : Array (Option Value)} {oc_choices kV_choices dc_choices pm_choices cd_choices ct_choices : Value}
  {od_budget_due an_budget_due : Option Addr} {sl_budget_due : Array (Option Value)} {oc_budget_due kV_budget_due dc_budget_due pm_budget_due cd_budget_due ct_budget_due : Value}
  {od_law_e_refusals an_law_e_refusals : Option Addr} {sl_law_e_refusals : Array (Option Value)} {oc_law_e_refusals kV_law_e_refusals dc_law_e_refusals pm_law_e_refusals cd_law_e_refusals ct_law_e_refusals : Value}
  {od_law_same an_law_same : Option Addr} {sl_law_same : Array (Option Value)} {oc_law_same kV_law_same dc_law_same pm_law_same cd_law_same ct_law_same : Value}
  {od_law_e_budget an_law_e_budget : Option Addr} {sl_law_e_budget : Array (Option Value)} {oc_law_e_budget kV_law_e_budget dc_law_e_budget pm_law_e_budget cd_law_e_budget ct_law_e_budget : Value}
  {od_law_e_words an_law_e_words : Option Addr} {sl_law_e_words : Array (Option Value)} {oc_law_e_words kV_law_e_words dc_law_e_words pm_law_e_words cd_law_e_words ct_law_e_words : Value}
  {od_law an_law : Option Addr} {sl_law : Array (Option Value)} {oc_law kV_law dc_law pm_law cd_law ct_law : Value}
  {nm_BadRow q_BadRow : Str} {N_BadRow : Addr} {bs_BadRow bm_BadRow : List Value} {sn_BadRow : List Str} {sub_BadRow : List Value} {ab_BadRow : Bool} {col_BadRow : Option Bool} {dd_BadRow : Option Addr} {m0_BadRow m1_BadRow m2_BadRow m3_BadRow m5_BadRow : Option Value}
  {od_BadRow an_BadRow : Option Addr} {sl_BadRow : Array (Option Value)} {oc_BadRow kV_BadRow dc_BadRow pm_BadRow cd_BadRow ct_BadRow : Value}
  (X : K.In h) (G : h.Ns mainGlobals mg) (hfa : mg "law" = some (.ref fa))
  (a_law_source : PySem.W.nsIn K mainGlobals "_law_source" = some (some (.ref f_law_source)))
  (l_law_source : K.lookup f_law_source = some ⟨oc_law_source, od_law_source, .func (PySem.W.fnOf "_law_source" "_law_source" (defArgs st_law_source) (defBody st_law_source) (defScope st_law_source) .none kV_law_source dc_law_source pm_law_source an_law_source cd_law_source ct_law_source), sl_law_source⟩)
  (c_law_source : PySem.W.codeIn K cd_law_source "_law_source" = true)
  (k_law_source : PySem.W.keepIn K (.ref f_law_source) = true)
  (a_law_pick : PySem.W.nsIn K mainGlobals "_law_pick" = some (some (.ref f_law_pick)))
  (l_law_pick : K.lookup f_law_pick = some ⟨oc_law_pick, od_law_pick, .func (PySem.W.fnOf "_law_pick" "_law_pick" (defArgs st_law_pick) (defBody st_law_pick) (defScope st_law_pick) .none kV_law_pick dc_law_pick pm_law_pick an_law_pick cd_law_pick ct_law_pick), sl_law_pick⟩)
  (c_law_pick : PySem.W.codeIn K cd_law_pick "_law_pick" = true)
  (k_law_pick : PySem.W.keepIn K (.ref f_law_pick) = true)
  (a_law_e_number : PySem.W.nsIn K mainGlobals "_law_e_number" = some (some (.ref f_law_e_number)))
  (l_law_e_number : K.lookup f_law_e_number = some ⟨oc_law_e_number, od_law_e_number, .func (PySem.W.fnOf "_law_e_number" "_law_e_number" (defArgs st_law_e_number) (defBody st_law_e_number) (defScope st_law_e_number) .none kV_law_e_number dc_law_e_number pm_law_e_number an_law_e_number cd_law_e_number ct_law_e_number), sl_law_e_number⟩)
  (c_law_e_number : PySem.W.codeIn K cd_law_e_number "_law_e_number" = true)
  (k_law_e_number : PySem.W.keepIn K (.ref f_law_e_number) = true)
  (a_check_numbers : PySem.W.nsIn K mainGlobals "check_numbers" = some (some (.ref f_check_numbers)))
  (l_check_numbers : K.lookup f_check_numbers = some ⟨oc_check_numbers, od_check_numbers, .func (PySem.W.fnOf "check_numbers" "check_numbers" (defArgs st_check_numbers) (defBody st_check_numbers) (defScope st_check_numbers) .none kV_check_numbers dc_check_numbers pm_check_numbers an_check_numbers cd_check_numbers ct_check_numbers), sl_check_numbers⟩)
  (c_check_numbers : PySem.W.codeIn K cd_check_numbers "check_numbers" = true)
  (k_check_numbers : PySem.W.keepIn K (.ref f_check_numbers) = true)
  (a_words_due : PySem.W.nsIn K mainGlobals "words_due" = some (some (.ref f_words_due)))
  (l_words_due : K.lookup f_words_due = some ⟨oc_words_due, od_words_due, .func (PySem.W.fnOf "words_due" "words_due" (defArgs st_words_due) (defBody st_words_due) (defScope st_words_due) .none kV_words_due dc_words_due pm_words_due an_words_due cd_words_due ct_words_due), sl_words_due⟩)
  (c_words_due : PySem.W.codeIn K cd_words_due "words_due" = true)
  (k_words_due : PySem.W.keepIn K (.ref f_words_due) = true)
  (a_session_end : PySem.W.nsIn K mainGlobals "session_end" = some (some (.ref f_session_end)))
  (l_session_end : K.lookup f_session_end = some ⟨oc_session_end, od_session_end, .func (PySem.W.fnOf "session_end" "session_end" (defArgs st_session_end) (defBody st_session_end) (defScope st_session_end) .none kV_session_end dc_session_end pm_session_end an_session_end cd_session_end ct_session_end), sl_session_end⟩)
  (c_session_end : PySem.W.codeIn K cd_session_end "session_end" = true)
  (k_session_end : PySem.W.keepIn K (.ref f_session_end) = true)
  (a_choices : PySem.W.nsIn K mainGlobals "choices" = some (some (.ref f_choices)))
  (l_choices : K.lookup f_choices = some ⟨oc_choices, od_choices, .func (PySem.W.fnOf "choices" "choices" (defArgs st_choices) (defBody st_choices) (defScope st_choices) .none kV_choices dc_choices pm_choices an_choices cd_choices ct_choices), sl_choices⟩)
  (c_choices : PySem.W.codeIn K cd_choices "choices" = true)
  (k_choices : PySem.W.keepIn K (.ref f_choices) = true)
  (a_budget_due : PySem.W.nsIn K mainGlobals "budget_due" = some (some (.ref f_budget_due)))
  (l_budget_due : K.lookup f_budget_due = some ⟨oc_budget_due, od_budget_due, .func (PySem.W.fnOf "budget_due" "budget_due" (defArgs st_budget_due) (defBody st_budget_due) (defScope st_budget_due) .none kV_budget_due dc_budget_due pm_budget_due an_budget_due cd_budget_due ct_budget_due), sl_budget_due⟩)
  (c_budget_due : PySem.W.codeIn K cd_budget_due "budget_due" = true)
  (k_budget_due : PySem.W.keepIn K (.ref f_budget_due) = true)
  (a_law_e_refusals : PySem.W.nsIn K mainGlobals "_law_e_refusals" = some (some (.ref f_law_e_refusals)))
  (l_law_e_refusals : K.lookup f_law_e_refusals = some ⟨oc_law_e_refusals, od_law_e_refusals, .func (PySem.W.fnOf "_law_e_refusals" "_law_e_refusals" (defArgs st_law_e_refusals) (defBody st_law_e_refusals) (defScope st_law_e_refusals) .none kV_law_e_refusals dc_law_e_refusals pm_law_e_refusals an_law_e_refusals cd_law_e_refusals ct_law_e_refusals), sl_law_e_refusals⟩)
  (c_law_e_refusals : PySem.W.codeIn K cd_law_e_refusals "_law_e_refusals" = true)
  (k_law_e_refusals : PySem.W.keepIn K (.ref f_law_e_refusals) = true)
  (a_law_same : PySem.W.nsIn K mainGlobals "_law_same" = some (some (.ref f_law_same)))
  (l_law_same : K.lookup f_law_same = some ⟨oc_law_same, od_law_same, .func (PySem.W.fnOf "_law_same" "_law_same" (defArgs st_law_same) (defBody st_law_same) (defScope st_law_same) .none kV_law_same dc_law_same pm_law_same an_law_same cd_law_same ct_law_same), sl_law_same⟩)
  (c_law_same : PySem.W.codeIn K cd_law_same "_law_same" = true)
  (k_law_same : PySem.W.keepIn K (.ref f_law_same) = true)
  (a_law_e_budget : PySem.W.nsIn K mainGlobals "_law_e_budget" = some (some (.ref f_law_e_budget)))
  (l_law_e_budget : K.lookup f_law_e_budget = some ⟨oc_law_e_budget, od_law_e_budget, .func (PySem.W.fnOf "_law_e_budget" "_law_e_budget" (defArgs st_law_e_budget) (defBody st_law_e_budget) (defScope st_law_e_budget) .none kV_law_e_budget dc_law_e_budget pm_law_e_budget an_law_e_budget cd_law_e_budget ct_law_e_budget), sl_law_e_budget⟩)
  (c_law_e_budget : PySem.W.codeIn K cd_law_e_budget "_law_e_budget" = true)
  (k_law_e_budget : PySem.W.keepIn K (.ref f_law_e_budget) = true)
  (a_law_e_words : PySem.W.nsIn K mainGlobals "_law_e_words" = some (some (.ref f_law_e_words)))
  (l_law_e_words : K.lookup f_law_e_words = some ⟨oc_law_e_words, od_law_e_words, .func (PySem.W.fnOf "_law_e_words" "_law_e_words" (defArgs st_law_e_words) (defBody st_law_e_words) (defScope st_law_e_words) .none kV_law_e_words dc_law_e_words pm_law_e_words an_law_e_words cd_law_e_words ct_law_e_words), sl_law_e_words⟩)
  (c_law_e_words : PySem.W.codeIn K cd_law_e_words "_law_e_words" = true)
  (k_law_e_words : PySem.W.keepIn K (.ref f_law_e_words) = true)
  (a_law : PySem.W.nsIn K mainGlobals "law" = some (some (.ref f_law)))
  (l_law : K.lookup f_law = some ⟨oc_law, od_law, .func (PySem.W.fnOf "law" "law" (defArgs st_law) (defBody st_law) (defScope st_law) .none kV_law dc_law pm_law an_law cd_law ct_law), sl_law⟩)
  (c_law : PySem.W.codeIn K cd_law "law" = true)
  (k_law : PySem.W.keepIn K (.ref f_law) = true)
  (z_abs : PySem.W.nsIn K mainGlobals "abs" = some none)
  (z_all : PySem.W.nsIn K mainGlobals "all" = some none)
  (z_dict : PySem.W.nsIn K mainGlobals "dict" = some none)
  (z_int : PySem.W.nsIn K mainGlobals "int" = some none)
  (z_isinstance : PySem.W.nsIn K mainGlobals "isinstance" = some none)
  (z_len : PySem.W.nsIn K mainGlobals "len" = some none)
  (z_list : PySem.W.nsIn K mainGlobals "list" = some none)
  (z_max : PySem.W.nsIn K mainGlobals "max" = some none)
  (z_min : PySem.W.nsIn K mainGlobals "min" = some none)
  (z_range : PySem.W.nsIn K mainGlobals "range" = some none)
  (z_repr : PySem.W.nsIn K mainGlobals "repr" = some none)
  (z_str : PySem.W.nsIn K mainGlobals "str" = some none)
  (z_sum : PySem.W.nsIn K mainGlobals "sum" = some none)
  (z_tuple : PySem.W.nsIn K mainGlobals "tuple" = some none)
  (aC_BadRow : PySem.W.nsIn K mainGlobals "BadRow" = some (some (.ref c_BadRow)))
  (xL_BadRow : K.lookup c_BadRow = some (excClassObj nm_BadRow q_BadRow c_BadRow N_BadRow bs_BadRow bm_BadRow true sn_BadRow sub_BadRow ab_BadRow col_BadRow dd_BadRow m0_BadRow m1_BadRow m2_BadRow m3_BadRow m5_BadRow "ValueError.__new__"))
  (rv_BadRow : PySem.HandSPX.refsVE bm_BadRow = true)
  (sa_BadRow : PySem.W.findIn K (.ref c_BadRow) "__setattr__" = some (some (.builtin "object.__setattr__")))
  (ga_BadRow : PySem.W.findIn K (.ref c_BadRow) "__getattribute__" = some (some (.builtin "BaseException.__getattribute__")))
  (gg_BadRow : PySem.W.findIn K (.ref c_BadRow) "__getattr__" = some none)
  (eC_BadRow : PySem.W.subIn K (.ref c_BadRow) (.type "BaseException") = some true)
  (tC_BadRow : PySem.W.typeIn K (.ref c_BadRow) = some (.type "type"))
  (kC_BadRow : PySem.W.keepIn K (.ref c_BadRow) = true)
  (hC_BadRow : PySem.W.hasDictIn K c_BadRow = true)
  (iK_BadRow : PySem.W.isClsIn K c_BadRow = true)
  (sC_BadRow : PySem.W.subIn K (.ref c_BadRow) (.ref c_BadRow) = some true)
  (a1_BadRow : PySem.W.findIn K (.ref c_BadRow) "__init__" = some (some (.ref fi_BadRow)))
  (t1_BadRow : PySem.W.typeIn K (.ref fi_BadRow) = some (.type "function"))
  (l1_BadRow : K.lookup fi_BadRow = some ⟨oc_BadRow, od_BadRow, .func (PySem.W.fnOf "__init__" "BadRow.__init__" (defArgs sti_BadRow) (defBody sti_BadRow) (defScope sti_BadRow) .none kV_BadRow dc_BadRow pm_BadRow an_BadRow cd_BadRow ct_BadRow), sl_BadRow⟩)
  (c1_BadRow : PySem.W.codeIn K cd_BadRow "BadRow.__init__" = true)
  (k1_BadRow : PySem.W.keepIn K (.ref fi_BadRow) = true)
  (no_BadRow_what : PySem.W.findIn K (.ref c_BadRow) "what" = some none) :
  ∃ fd : FuncData, (∀ (s : Shared) (v : Value), BindsTo s fd ⟨[v], []⟩ [("script", v)]) ∧ ∀ base : Heap, K.In base → base.Ns mainGlobals mg → FnOk P w K mg base (L2.CX P w) 10 fa fd ["script"] (spLaw K) := by
  have e := hfa.symm.trans (PySem.W.mg_of X G a_law)
  cases e
  have F_law_source := fun_mk (st := st_law_source) l_law_source c_law_source k_law_source
  have B_law_source := F_law_source.binds (ps := ["script", "at"]) fun _ _ _ _ _ _ us hl => match us, hl with | [_, _], _ => rfl
  have F_law_pick := fun_mk (st := st_law_pick) l_law_pick c_law_pick k_law_pick
  have B_law_pick := F_law_pick.binds (ps := ["source", "many"]) fun _ _ _ _ _ _ us hl => match us, hl with | [_, _], _ => rfl
  have F_law_e_number := fun_mk (st := st_law_e_number) l_law_e_number c_law_e_number k_law_e_number
  have B_law_e_number := F_law_e_number.binds (ps := ["stock", "near"]) fun _ _ _ _ _ _ us hl => match us, hl with | [_, _], _ => rfl
  have F_check_numbers := fun_mk (st := st_check_numbers) l_check_numbers c_check_numbers k_check_numbers
  have B_check_numbers := F_check_numbers.binds (ps := ["numbers", "least"]) fun _ _ _ _ _ _ us hl => match us, hl with | [_, _], _ => rfl
  have F_words_due := fun_mk (st := st_words_due) l_words_due c_words_due k_words_due
  have B_words_due := F_words_due.binds (ps := ["n", "late", "m"]) fun _ _ _ _ _ _ us hl => match us, hl with | [_, _, _], _ => rfl
  have F_session_end := fun_mk (st := st_session_end) l_session_end c_session_end k_session_end
  have B_session_end := F_session_end.binds (ps := ["step", "n", "f"]) fun _ _ _ _ _ _ us hl => match us, hl with | [_, _, _], _ => rfl
  have F_choices := fun_mk (st := st_choices) l_choices c_choices k_choices
  have B_choices := F_choices.binds (ps := ["many", "most"]) fun _ _ _ _ _ _ us hl => match us, hl with | [_, _], _ => rfl
  have F_budget_due := fun_mk (st := st_budget_due) l_budget_due c_budget_due k_budget_due
  have B_budget_due := F_budget_due.binds (ps := ["most"]) fun _ _ _ _ _ _ us hl => match us, hl with | [_], _ => rfl
  have F_law_e_refusals := fun_mk (st := st_law_e_refusals) l_law_e_refusals c_law_e_refusals k_law_e_refusals
  have B_law_e_refusals := F_law_e_refusals.binds (ps := ["stock", "n", "late", "m"]) fun _ _ _ _ _ _ us hl => match us, hl with | [_, _, _, _], _ => rfl
  have F_law_same := fun_mk (st := st_law_same) l_law_same c_law_same k_law_same
  have B_law_same := F_law_same.binds (ps := ["answer", "due"]) fun _ _ _ _ _ _ us hl => match us, hl with | [_, _], _ => rfl
  have F_law_e_budget := fun_mk (st := st_law_e_budget) l_law_e_budget c_law_e_budget k_law_e_budget
  have B_law_e_budget := F_law_e_budget.binds (ps := ["most"]) fun _ _ _ _ _ _ us hl => match us, hl with | [_], _ => rfl
  have F_law_e_words := fun_mk (st := st_law_e_words) l_law_e_words c_law_e_words k_law_e_words
  have B_law_e_words := F_law_e_words.binds (ps := ["n", "late", "m"]) fun _ _ _ _ _ _ us hl => match us, hl with | [_, _, _], _ => rfl
  have F_law := fun_mk (st := st_law) l_law c_law k_law
  have B_law := F_law.binds (ps := ["script"]) fun _ _ _ _ _ _ us hl => match us, hl with | [_], _ => rfl
  have F_iBadRow := fun_mk (st := sti_BadRow) l1_BadRow c1_BadRow k1_BadRow
  have B_iBadRow := F_iBadRow.binds (ps := ["self", "what"]) fun _ _ _ _ _ _ us hl => match us, hl with | [_, _], _ => rfl
  have T : Tx P w K mg h ⟨f_law_source, (PySem.W.fnOf "_law_source" "_law_source" (defArgs st_law_source) (defBody st_law_source) (defScope st_law_source) .none kV_law_source dc_law_source pm_law_source an_law_source cd_law_source ct_law_source), f_law_pick, (PySem.W.fnOf "_law_pick" "_law_pick" (defArgs st_law_pick) (defBody st_law_pick) (defScope st_law_pick) .none kV_law_pick dc_law_pick pm_law_pick an_law_pick cd_law_pick ct_law_pick), f_law_e_number, (PySem.W.fnOf "_law_e_number" "_law_e_number" (defArgs st_law_e_number) (defBody st_law_e_number) (defScope st_law_e_number) .none kV_law_e_number dc_law_e_number pm_law_e_number an_law_e_number cd_law_e_number ct_law_e_number), f_check_numbers, (PySem.W.fnOf "check_numbers" "check_numbers" (defArgs st_check_numbers) (defBody st_check_numbers) (defScope st_check_numbers) .none kV_check_numbers dc_check_numbers pm_check_numbers an_check_numbers cd_check_numbers ct_check_numbers), f_words_due, (PySem.W.fnOf "words_due" "words_due" (defArgs st_words_due) (defBody st_words_due) (defScope st_words_due) .none kV_words_due dc_words_due pm_words_due an_words_due cd_words_due ct_words_due), f_session_end, (PySem.W.fnOf "session_end" "session_end" (defArgs st_session_end) (defBody st_session_end) (defScope st_session_end) .none kV_session_end dc_session_end pm_session_end an_session_end cd_session_end ct_session_end), f_choices, (PySem.W.fnOf "choices" "choices" (defArgs st_choices) (defBody st_choices) (defScope st_choices) .none kV_choices dc_choices pm_choices an_choices cd_choices ct_choices), f_budget_due, (PySem.W.fnOf "budget_due" "budget_due" (defArgs st_budget_due) (defBody st_budget_due) (defScope st_budget_due) .none kV_budget_due dc_budget_due pm_budget_due an_budget_due cd_budget_due ct_budget_due), f_law_e_refusals, (PySem.W.fnOf "_law_e_refusals" "_law_e_refusals" (defArgs st_law_e_refusals) (defBody st_law_e_refusals) (defScope st_law_e_refusals) .none kV_law_e_refusals dc_law_e_refusals pm_law_e_refusals an_law_e_refusals cd_law_e_refusals ct_law_e_refusals), f_law_same, (PySem.W.fnOf "_law_same" "_law_same" (defArgs st_law_same) (defBody st_law_same) (defScope st_law_same) .none kV_law_same dc_law_same pm_law_same an_law_same cd_law_same ct_law_same), f_law_e_budget, (PySem.W.fnOf "_law_e_budget" "_law_e_budget" (defArgs st_law_e_budget) (defBody st_law_e_budget) (defScope st_law_e_budget) .none kV_law_e_budget dc_law_e_budget pm_law_e_budget an_law_e_budget cd_law_e_budget ct_law_e_budget), f_law_e_words, (PySem.W.fnOf "_law_e_words" "_law_e_words" (defArgs st_law_e_words) (defBody st_law_e_words) (defScope st_law_e_words) .none kV_law_e_words dc_law_e_words pm_law_e_words an_law_e_words cd_law_e_words ct_law_e_words), fa, (PySem.W.fnOf "law" "law" (defArgs st_law) (defBody st_law) (defScope st_law) .none kV_law dc_law pm_law an_law cd_law ct_law), c_BadRow, fi_BadRow, (PySem.W.fnOf "__init__" "BadRow.__init__" (defArgs sti_BadRow) (defBody sti_BadRow) (defScope sti_BadRow) .none kV_BadRow dc_BadRow pm_BadRow an_BadRow cd_BadRow ct_BadRow)⟩ :=
    { F_law_source := F_law_source,
      b_law_source := B_law_source,
      m_law_source := PySem.W.mg_of X G a_law_source,
      F_law_pick := F_law_pick,
      b_law_pick := B_law_pick,
      m_law_pick := PySem.W.mg_of X G a_law_pick,
      F_law_e_number := F_law_e_number,
      b_law_e_number := B_law_e_number,
      m_law_e_number := PySem.W.mg_of X G a_law_e_number,
      F_check_numbers := F_check_numbers,
      b_check_numbers := B_check_numbers,
      m_check_numbers := PySem.W.mg_of X G a_check_numbers,
      F_words_due := F_words_due,
      b_words_due := B_words_due,
      m_words_due := PySem.W.mg_of X G a_words_due,
      F_session_end := F_session_end,
      b_session_end := B_session_end,
      m_session_end := PySem.W.mg_of X G a_session_end,
      F_choices := F_choices,
      b_choices := B_choices,
      m_choices := PySem.W.mg_of X G a_choices,
      F_budget_due := F_budget_due,
      b_budget_due := B_budget_due,
      m_budget_due := PySem.W.mg_of X G a_budget_due,
      F_law_e_refusals := F_law_e_refusals,
      b_law_e_refusals := B_law_e_refusals,
      m_law_e_refusals := PySem.W.mg_of X G a_law_e_refusals,
      F_law_same := F_law_same,
      b_law_same := B_law_same,
      m_law_same := PySem.W.mg_of X G a_law_same,
      F_law_e_budget := F_law_e_budget,
      b_law_e_budget := B_law_e_budget,
      m_law_e_budget := PySem.W.mg_of X G a_law_e_budget,
      F_law_e_words := F_law_e_words,
      b_law_e_words := B_law_e_words,
      m_law_e_words := PySem.W.mg_of X G a_law_e_words,
      F_law := F_law,
      b_law := B_law,
      m_law := PySem.W.mg_of X G a_law,
      z_abs := PySem.W.mg_none_of X G z_abs,
      z_all := PySem.W.mg_none_of X G z_all,
      z_dict := PySem.W.mg_none_of X G z_dict,
      z_int := PySem.W.mg_none_of X G z_int,
      z_isinstance := PySem.W.mg_none_of X G z_isinstance,
      z_len := PySem.W.mg_none_of X G z_len,
      z_list := PySem.W.mg_none_of X G z_list,
      z_max := PySem.W.mg_none_of X G z_max,
      z_min := PySem.W.mg_none_of X G z_min,
      z_range := PySem.W.mg_none_of X G z_range,
      z_repr := PySem.W.mg_none_of X G z_repr,
      z_str := PySem.W.mg_none_of X G z_str,
      z_sum := PySem.W.mg_none_of X G z_sum,
      z_tuple := PySem.W.mg_none_of X G z_tuple,
      g_BadRow := PySem.W.mg_of X G aC_BadRow,
      o_BadRow := ⟨⟨_, _, _, _, _, _, _, _, _, _, _, _, _, _, _, xL_BadRow, rv_BadRow⟩, sa_BadRow, eC_BadRow, tC_BadRow, kC_BadRow⟩,
      x_BadRow := ⟨ga_BadRow, gg_BadRow, eC_BadRow, hC_BadRow⟩,
      e_BadRow := exm_of eC_BadRow iK_BadRow tC_BadRow sC_BadRow,
      iC_BadRow := a1_BadRow,
      tI_BadRow := t1_BadRow,
      Fi_BadRow := F_iBadRow,
      bi_BadRow := B_iBadRow,
      n_BadRow_what := no_BadRow_what }
  exact ⟨_, fun s v => .of_eq rfl, fun base _ _ => law_fn keeps (ok_law (base := base) ⟨T.F_law_source, T.b_law_source, T.m_law_source, T.F_law_pick, T.b_law_pick, T.m_law_pick, T.F_law_e_number, T.b_law_e_number, T.m_law_e_number, T.F_check_numbers, T.b_check_numbers, T.m_check_numbers, T.F_words_due, T.b_words_due, T.m_words_due, T.F_session_end, T.b_session_end, T.m_session_end, T.F_choices, T.b_choices, T.m_choices, T.F_budget_due, T.b_budget_due, T.m_budget_due, T.F_law_e_refusals, T.b_law_e_refusals, T.m_law_e_refusals, T.F_law_same, T.b_law_same, T.m_law_same, T.F_law_e_budget, T.b_law_e_budget, T.m_law_e_budget, T.F_law_e_words, T.b_law_e_words, T.m_law_e_words, T.F_law, T.b_law, T.m_law, T.z_abs, T.z_all, T.z_dict, T.z_int, T.z_isinstance, T.z_len, T.z_list, T.z_max, T.z_min, T.z_range, T.z_repr, T.z_str, T.z_sum, T.z_tuple, T.g_BadRow, T.o_BadRow, T.x_BadRow, T.e_BadRow, T.iC_BadRow, T.tI_BadRow, T.Fi_BadRow, T.bi_BadRow, T.n_BadRow_what⟩)⟩
end K24
open PySem PySem.W PyProof.Rows in
set_option maxRecDepth 100000 in
set_option maxHeartbeats 0 in
theorem PySem.Challenge.cw_howeverlost_k24_words_sessions_budgets_holds : PySem.Challenge.rw_howeverlost_k24_words_sessions_budgets.Holds := by
  w_on; o_law; k_head; (case hw => w_witness2)
  k_fill
  refine Bx.walk (l := PySem.Challenge.rw_howeverlost_k24_words_sessions_budgets) (k := 10) rfl rfl ⟨rfl, by decide, by decide⟩ (fun w h Y => PySem.W.kIn_of Y) ?F
  case F =>
    intro w mg fa h KX G hmg
    refine' K24.all_mk KX G hmg ?a_law_source ?l_law_source ?c_law_source ?k_law_source ?a_law_pick ?l_law_pick ?c_law_pick ?k_law_pick ?a_law_e_number ?l_law_e_number ?c_law_e_number ?k_law_e_number ?a_check_numbers ?l_check_numbers ?c_check_numbers ?k_check_numbers ?a_words_due ?l_words_due ?c_words_due ?k_words_due ?a_session_end ?l_session_end ?c_session_end ?k_session_end ?a_choices ?l_choices ?c_choices ?k_choices ?a_budget_due ?l_budget_due ?c_budget_due ?k_budget_due ?a_law_e_refusals ?l_law_e_refusals ?c_law_e_refusals ?k_law_e_refusals ?a_law_same ?l_law_same ?c_law_same ?k_law_same ?a_law_e_budget ?l_law_e_budget ?c_law_e_budget ?k_law_e_budget ?a_law_e_words ?l_law_e_words ?c_law_e_words ?k_law_e_words ?a_law ?l_law ?c_law ?k_law ?z_abs ?z_all ?z_dict ?z_int ?z_isinstance ?z_len ?z_list ?z_max ?z_min ?z_range ?z_repr ?z_str ?z_sum ?z_tuple ?aC_BadRow ?xL_BadRow ?rv_BadRow ?sa_BadRow ?ga_BadRow ?gg_BadRow ?eC_BadRow ?tC_BadRow ?kC_BadRow ?hC_BadRow ?iK_BadRow ?sC_BadRow ?a1_BadRow ?t1_BadRow ?l1_BadRow ?c1_BadRow ?k1_BadRow ?no_BadRow_what
    (case a_law_source => k_is)
    (case l_law_source => k_is)
    (case c_law_source => k_is)
    (case k_law_source => k_is)
    (case a_law_pick => k_is)
    (case l_law_pick => k_is)
    (case c_law_pick => k_is)
    (case k_law_pick => k_is)
    (case a_law_e_number => k_is)
    (case l_law_e_number => k_is)
    (case c_law_e_number => k_is)
    (case k_law_e_number => k_is)
    (case a_check_numbers => k_is)
    (case l_check_numbers => k_is)
    (case c_check_numbers => k_is)
    (case k_check_numbers => k_is)
    (case a_words_due => k_is)
    (case l_words_due => k_is)
    (case c_words_due => k_is)
    (case k_words_due => k_is)
    (case a_session_end => k_is)
    (case l_session_end => k_is)
    (case c_session_end => k_is)
    (case k_session_end => k_is)
    (case a_choices => k_is)
    (case l_choices => k_is)
    (case c_choices => k_is)
    (case k_choices => k_is)
    (case a_budget_due => k_is)
    (case l_budget_due => k_is)
    (case c_budget_due => k_is)
    (case k_budget_due => k_is)
    (case a_law_e_refusals => k_is)
    (case l_law_e_refusals => k_is)
    (case c_law_e_refusals => k_is)
    (case k_law_e_refusals => k_is)
    (case a_law_same => k_is)
    (case l_law_same => k_is)
    (case c_law_same => k_is)
    (case k_law_same => k_is)
    (case a_law_e_budget => k_is)
    (case l_law_e_budget => k_is)
    (case c_law_e_budget => k_is)
    (case k_law_e_budget => k_is)
    (case a_law_e_words => k_is)
    (case l_law_e_words => k_is)
    (case c_law_e_words => k_is)
    (case k_law_e_words => k_is)
    (case a_law => k_is)
    (case l_law => k_is)
    (case c_law => k_is)
    (case k_law => k_is)
    (case z_abs => k_is)
    (case z_all => k_is)
    (case z_dict => k_is)
    (case z_int => k_is)
    (case z_isinstance => k_is)
    (case z_len => k_is)
    (case z_list => k_is)
    (case z_max => k_is)
    (case z_min => k_is)
    (case z_range => k_is)
    (case z_repr => k_is)
    (case z_str => k_is)
    (case z_sum => k_is)
    (case z_tuple => k_is)
    (case aC_BadRow => k_is)
    (case xL_BadRow => k_is)
    (case rv_BadRow => decide +kernel)
    (case sa_BadRow => k_is)
    (case ga_BadRow => k_is)
    (case gg_BadRow => k_is)
    (case eC_BadRow => k_is)
    (case tC_BadRow => k_is)
    (case kC_BadRow => k_is)
    (case hC_BadRow => k_is)
    (case iK_BadRow => k_is)
    (case sC_BadRow => first | rfl | k_is)
    (case a1_BadRow => k_is)
    (case t1_BadRow => k_is)
    (case l1_BadRow => k_is)
    (case c1_BadRow => k_is)
    (case k1_BadRow => k_is)
    (case no_BadRow_what => k_is)
#print axioms PySem.Challenge.cw_howeverlost_k24_words_sessions_budgets_holds

