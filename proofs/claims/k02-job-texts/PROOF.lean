import PyProof.Rows.All
import Wide.All
import OpenK.AllK
import Wide.FinOn
import HandS.ForMost
import HandS.Wide
import HandS.Gcd
import HandS.Dict
import HandS.IsInst
import HandS.Defaults
import HandS.Deep
import HandS.TupAny
import HandS.EndBits
import HandS.More
import HandS.SortInts
import KE.GoesEnumKw
import HandS.DictComp
import HandS.Strs
import HandS.Rev
import KE.KMathGC
import HandS.SetBool
import KE.KExcSuper
import KE.KSuper
import HandS.ExcInit
import HandS.Exc
import HandS.TryOnly
import HandS.ExcOwn
import HandS.HotCalls
import HandS.WordsExc
import HandS.Lambda
import KE.KExcIs
import HandS.Flow
import KE.KUnpackStar
import HandS.Text
import HandS.Star
import HandS.FStr
import HandS.StrMore
import HandS.RaiseMore
import HandS.Iter
import PyProof.Rows.CallKwBuiltin
import PySem.Challenge.RW_sparewatts_k02_job_texts
set_option Elab.async false
set_option linter.all false
set_option maxRecDepth 100000
set_option autoImplicit false
namespace Pm
open PySem PySem.Spec PyProof.Rows L2

abbrev St := L2.St
/-! ## pure data -/
inductive D where
  | non | bl (b : Bool) | int (i : Int) | str (x : Str) | tup (l : List D) | lst (l : List D) | scr (ns : List Int)

abbrev Av := Addr → Prop
section
variable (K : PySem.W.Frag) (H : Hp) (A : Av)
mutual
def Rp : D → V → Prop
  | .non, v => v = .non
  | .bl b, v => v = .bl b
  | .int i, v => v = .int i
  | .str x, v => v = .str x
  | .tup l, v => ∃ a vs, v = .ref a ∧ SqT K H a vs ∧ Rps l vs
  | .lst l, v => ∃ a vs, v = .ref a ∧ H a = some (.lst vs) ∧ ¬ A a ∧ Rps l vs
  | .scr ns, v => ∃ a, v = .ref a ∧ ((∃ o, H a = some (.frz o (.lst (ns.map V.int)))) ∨ SqL K (fun _ => none) a (ns.map V.int))
def Rps : List D → List V → Prop
  | [], vs => vs = []
  | d :: ds, vs => ∃ v r, vs = v :: r ∧ Rp d v ∧ Rps ds r
end
/-- at the top a list may be owned -/
def RpT : D → V → Prop
  | .lst l, v => ∃ a vs, v = .ref a ∧ H a = some (.lst vs) ∧ Rps K H A l vs
  | d, v => Rp K H A d v
end
section
variable {K : PySem.W.Frag} {H H' : Hp} {A A' : Av}
theorem Rps.length : ∀ {l : List D} {vs : List V}, Rps K H A l vs → vs.length = l.length
  | [], vs, h => by unfold Rps at h; subst h; rfl
  | d :: ds, vs, h => by
    unfold Rps at h
    obtain ⟨v, r, rfl, _, h2⟩ := h
    simp [Rps.length h2]
theorem Rps.get : ∀ {l : List D} {vs : List V} {i : Nat} {d : D}, Rps K H A l vs → l[i]? = some d → ∃ v, vs[i]? = some v ∧ Rp K H A d v
  | [], _, _, _, _, e => by simp at e
  | d :: ds, vs, 0, d', h, e => by
    unfold Rps at h
    obtain ⟨v, r, rfl, h1, h2⟩ := h
    simp at e; subst e
    exact ⟨v, rfl, h1⟩
  | d :: ds, vs, i + 1, d', h, e => by
    unfold Rps at h
    obtain ⟨v, r, rfl, h1, h2⟩ := h
    obtain ⟨w, q1, q2⟩ := Rps.get (i := i) h2 (by simpa using e)
    exact ⟨w, by simpa using q1, q2⟩
theorem Rps.app : ∀ {l m : List D} {vs ws : List V}, Rps K H A l vs → Rps K H A m ws → Rps K H A (l ++ m) (vs ++ ws)
  | [], m, vs, ws, h, h' => by unfold Rps at h; subst h; exact h'
  | d :: ds, m, vs, ws, h, h' => by
    unfold Rps at h
    obtain ⟨v, r, rfl, h1, h2⟩ := h
    show Rps K H A (d :: (ds ++ m)) (v :: (r ++ ws))
    unfold Rps
    exact ⟨v, _, rfl, h1, Rps.app h2 h'⟩
theorem Rps.nil : Rps K H A [] [] := by unfold Rps; rfl
theorem Rps.cons {d : D} {v : V} {ds : List D} {vs : List V} (h : Rp K H A d v) (t : Rps K H A ds vs) : Rps K H A (d :: ds) (v :: vs) := by
  unfold Rps; exact ⟨v, vs, rfl, h, t⟩
theorem Rps.one {d : D} {v : V} (h : Rp K H A d v) : Rps K H A [d] [v] := .cons h .nil
theorem Rps.take : ∀ {l : List D} {vs : List V} (n : Nat), Rps K H A l vs → Rps K H A (l.take n) (vs.take n)
  | l, vs, 0, _ => by simp; exact Rps.nil
  | [], vs, n + 1, h => by unfold Rps at h; subst h; exact Rps.nil
  | d :: ds, vs, n + 1, h => by
    unfold Rps at h
    obtain ⟨v, r, rfl, h1, h2⟩ := h
    exact .cons h1 (Rps.take n h2)
theorem Rps.drop : ∀ {l : List D} {vs : List V} (n : Nat), Rps K H A l vs → Rps K H A (l.drop n) (vs.drop n)
  | l, vs, 0, h => by simpa using h
  | [], vs, n + 1, h => by unfold Rps at h; subst h; exact Rps.nil
  | d :: ds, vs, n + 1, h => by
    unfold Rps at h
    obtain ⟨v, r, rfl, h1, h2⟩ := h
    exact Rps.drop n h2
theorem Rps.set {d : D} {v : V} : ∀ {l : List D} {vs : List V} (n : Nat), Rps K H A l vs → Rp K H A d v → Rps K H A (l.set n d) (vs.set n v)
  | [], vs, n, h, _ => by unfold Rps at h; subst h; exact Rps.nil
  | d' :: ds, vs, 0, h, q => by
    unfold Rps at h
    obtain ⟨v, r, rfl, h1, h2⟩ := h
    exact .cons q h2
  | d' :: ds, vs, n + 1, h, q => by
    unfold Rps at h
    obtain ⟨v, r, rfl, h1, h2⟩ := h
    exact .cons h1 (Rps.set n h2 q)
theorem Rps.eraseIdx : ∀ {l : List D} {vs : List V} (n : Nat), Rps K H A l vs → Rps K H A (l.eraseIdx n) (vs.eraseIdx n)
  | [], vs, n, h => by unfold Rps at h; subst h; exact Rps.nil
  | d' :: ds, vs, 0, h => by
    unfold Rps at h
    obtain ⟨v, r, rfl, h1, h2⟩ := h
    exact h2
  | d' :: ds, vs, n + 1, h => by
    unfold Rps at h
    obtain ⟨v, r, rfl, h1, h2⟩ := h
    exact .cons h1 (Rps.eraseIdx n h2)
mutual
theorem Rp.mono (hF : ∀ a o u, H a = some (.frz o u) → H' a = some (.frz o u)) (hT : ∀ a xs, SqT K H a xs → SqT K H' a xs) (hL : ∀ a xs, H a = some (.lst xs) → ¬ A a → H' a = some (.lst xs) ∧ ¬ A' a) :
    ∀ (d : D) (v : V), Rp K H A d v → Rp K H' A' d v
  | .non, v, h => by unfold Rp at h ⊢; exact h
  | .bl b, v, h => by unfold Rp at h ⊢; exact h
  | .int i, v, h => by unfold Rp at h ⊢; exact h
  | .str x, v, h => by unfold Rp at h ⊢; exact h
  | .tup l, v, h => by
    unfold Rp at h ⊢
    obtain ⟨a, vs, e, q, r⟩ := h
    exact ⟨a, vs, e, hT a vs q, Rps.mono hF hT hL l vs r⟩
  | .lst l, v, h => by
    unfold Rp at h ⊢
    obtain ⟨a, vs, e, q, n, r⟩ := h
    obtain ⟨q', n'⟩ := hL a vs q n
    exact ⟨a, vs, e, q', n', Rps.mono hF hT hL l vs r⟩
  | .scr ns, v, h => by
    unfold Rp at h ⊢
    obtain ⟨a, e, q⟩ := h
    refine ⟨a, e, ?_⟩
    rcases q with ⟨o, q⟩ | q
    · exact .inl ⟨o, hF a o _ q⟩
    · exact .inr q
theorem Rps.mono (hF : ∀ a o u, H a = some (.frz o u) → H' a = some (.frz o u)) (hT : ∀ a xs, SqT K H a xs → SqT K H' a xs) (hL : ∀ a xs, H a = some (.lst xs) → ¬ A a → H' a = some (.lst xs) ∧ ¬ A' a) :
    ∀ (l : List D) (vs : List V), Rps K H A l vs → Rps K H' A' l vs
  | [], vs, h => by unfold Rps at h ⊢; exact h
  | d :: ds, vs, h => by
    unfold Rps at h ⊢
    obtain ⟨v, r, e, h1, h2⟩ := h
    exact ⟨v, r, e, Rp.mono hF hT hL d v h1, Rps.mono hF hT hL ds r h2⟩
end
theorem Rp.top {d : D} {v : V} (h : Rp K H A d v) : RpT K H A d v := by
  cases d with
  | lst l =>
    unfold Rp at h
    obtain ⟨a, vs, e, q, _, r⟩ := h
    exact ⟨a, vs, e, q, r⟩
  | _ => exact h
end

/-! ## contents, results, the context -/
/-- what a slot (or a field) holds: frozen data, an owned list, an owned dict -/
inductive FC where
  | fz (d : D) | ow (l : List D) | dk (kvs : List (Key × D)) | tow (a : Addr) (l : List D) | tdk (a : Addr) (kvs : List (Key × D)) | pin (a : Addr)
inductive Ct where
  | no | at (f : FC) | ob (nm : Str) (fs : List (Str × FC)) | ds (fs : List (Str × FC))
inductive R where
  | al (i : Nat) | alf (i : Nat) (f : Str) | va (c : Ct)
abbrev En := List Ct
structure Exn where
  nm : Str
  fs : List (Str × D)
abbrev Fz (d : D) : Ct := .at (.fz d)
abbrev Wl (l : List D) : Ct := .at (.ow l)

inductive Lab where
  | s (i : Nat) | t (i : Nat) | r
  deriving DecidableEq
abbrev Ow := Addr → Option (Lab × Option Str)

structure Cc where
  K : PySem.W.Frag
  cls : Str → Option Addr
  Z : Addr → Prop
  H0 : Hp
  I : Addr → Prop
  io : List (Nat × Addr)
  lock : List Nat
  nb : Nat

def Cc.av (c : Cc) (O : Ow) : Av := fun a => c.Z a ∨ O a ≠ none

section
variable (c : Cc) (H : Hp) (O : Ow)
def FOk (v : V) (ℓ : Lab × Option Str) : FC → Prop
  | .fz d => Rp c.K H (c.av O) d v
  | .ow l => ∃ a vs, v = .ref a ∧ O a = some ℓ ∧ H a = some (.lst vs) ∧ Rps c.K H (c.av O) l vs
  | .dk kvs => ∃ a ws, v = .ref a ∧ O a = some ℓ ∧ H a = some (.dK ws) ∧ ws.map (·.1) = kvs.map (·.1) ∧ Rps c.K H (c.av O) (kvs.map (·.2)) (ws.map (·.2))
  | .tow p l => ∃ a vs, v = .ref a ∧ (O a = some ℓ ∧ a = p) ∧ H a = some (.lst vs) ∧ Rps c.K H (c.av O) l vs
  | .tdk p kvs => ∃ a ws, v = .ref a ∧ (O a = some ℓ ∧ a = p) ∧ H a = some (.dK ws) ∧ ws.map (·.1) = kvs.map (·.1) ∧ Rps c.K H (c.av O) (kvs.map (·.2)) (ws.map (·.2))
  | .pin p => v = .ref p
def kS (p : Str × V) : Key × V := (.inr p.1, p.2)
/-- an object with fields: an instance, or a dict whose keys are texts -/
def RecH (o : Option HO) (C dx : Addr) (vfs : List (Str × V)) : Prop := o = some (.ins C dx vfs) ∨ o = some (.dK (vfs.map kS))
def FsOk (ℓ : Lab) (fs : List (Str × FC)) (vs : List (Str × V)) : Prop :=
  vs.map (·.1) = fs.map (·.1) ∧ ∀ f fc, fs.lookup f = some fc → ∃ w, vs.lookup f = some w ∧ FOk c H O w (ℓ, some f) fc
def COk (v : V) (ℓ : Lab) : Ct → Prop
  | .no => True
  | .at f => FOk c H O v (ℓ, none) f
  | .ob nm fs => ∃ x dx C vfs, v = .ref x ∧ O x = some (ℓ, none) ∧ c.cls nm = some C ∧ H x = some (.ins C dx vfs) ∧ FsOk c H O ℓ fs vfs
  | .ds fs => ∃ x vfs, v = .ref x ∧ O x = some (ℓ, none) ∧ H x = some (.dK (vfs.map kS)) ∧ FsOk c H O ℓ fs vfs
def TOk (σ : St) : List (V × R) → Prop
  | [] => True
  | (v, .al i) :: τ => (i < c.nb ∧ σ[i]? = some (some v)) ∧ TOk σ τ
  | (v, .alf i f) :: τ => (∃ x C dx vfs, i < c.nb ∧ σ[i]? = some (some (.ref x)) ∧ O x = some (.s i, none) ∧ RecH (H x) C dx vfs ∧ vfs.lookup f = some v) ∧ TOk σ τ
  | (v, .va ct) :: τ => COk c H O v (.t τ.length) ct ∧ TOk σ τ
structure Sim0 (ρ : En) (τ : List (V × R)) (σ : St) : Prop where
  len : σ.length = ρ.length
  fr : ∀ a o, c.H0 a = some o → ¬ c.I a → H a = some o
  ow : ∀ a ℓ, O a = some ℓ → ¬ c.Z a ∧ (c.H0 a = none ∨ c.I a) ∧ Mut (H a)
  zt : ∀ a, c.Z a → H a ≠ none
  io : ∀ p ∈ c.io, p.1 ∈ c.lock ∧ σ[p.1]? = some (some (.ref p.2))
  sl : ∀ i ct, ρ[i]? = some ct → ct ≠ .no → ∃ v, σ[i]? = some (some v) ∧ COk c H O v (.s i) ct
  tm : TOk c H O σ τ
end
def Sim (c : Cc) (ρ : En) (τ : List (V × R)) (σ : St) (H : Hp) : Prop := ∃ O, Sim0 c H O ρ τ σ

/-- all but the roots of labels in P is kept -/
structure Ext (c : Cc) (P : Lab × Option Str → Addr → Prop) (O O' : Ow) (H H' : Hp) : Prop where
  hF : ∀ a o u, H a = some (.frz o u) → H' a = some (.frz o u)
  hT : ∀ a xs, SqT c.K H a xs → SqT c.K H' a xs
  hL : ∀ a xs, H a = some (.lst xs) → ¬ c.av O a → H' a = some (.lst xs) ∧ ¬ c.av O' a
  hO : ∀ a ℓ o, O a = some ℓ → ¬ P ℓ a → H a = some o → O' a = some ℓ ∧ H' a = some o

section
variable {c : Cc} {P : Lab × Option Str → Addr → Prop} {O O' : Ow} {H H' : Hp} {ρ : En} {τ : List (V × R)} {σ : St} {v : V} {ℓ : Lab} {ct : Ct}
theorem Ext.rp (e : Ext c P O O' H H') {d : D} (h : Rp c.K H (c.av O) d v) : Rp c.K H' (c.av O') d v := Rp.mono e.hF e.hT e.hL d v h
theorem Ext.rps (e : Ext c P O O' H H') {l : List D} {vs : List V} (h : Rps c.K H (c.av O) l vs) : Rps c.K H' (c.av O') l vs := Rps.mono e.hF e.hT e.hL l vs h
theorem FOk.mono (e : Ext c P O O' H H') {m : Lab × Option Str} (hp : ∀ a, ¬ P m a) {f : FC} (h : FOk c H O v m f) : FOk c H' O' v m f := by
  cases f with
  | fz d => exact e.rp h
  | ow l =>
    obtain ⟨a, vs, rfl, o, ha, r⟩ := h
    obtain ⟨o', ha'⟩ := e.hO a _ _ o (hp a) ha
    exact ⟨a, vs, rfl, o', ha', e.rps r⟩
  | dk kvs =>
    obtain ⟨a, ws, rfl, o, ha, k, r⟩ := h
    obtain ⟨o', ha'⟩ := e.hO a _ _ o (hp a) ha
    exact ⟨a, ws, rfl, o', ha', k, e.rps r⟩
  | tow p l =>
    obtain ⟨a, vs, rfl, ⟨o, hpa⟩, ha, r⟩ := h
    obtain ⟨o', ha'⟩ := e.hO a _ _ o (hp a) ha
    exact ⟨a, vs, rfl, ⟨o', hpa⟩, ha', e.rps r⟩
  | tdk p kvs =>
    obtain ⟨a, ws, rfl, ⟨o, hpa⟩, ha, k, r⟩ := h
    obtain ⟨o', ha'⟩ := e.hO a _ _ o (hp a) ha
    exact ⟨a, ws, rfl, ⟨o', hpa⟩, ha', k, e.rps r⟩
  | pin p => exact h
theorem FsOk.mono (e : Ext c P O O' H H') (hp : ∀ f a, ¬ P (ℓ, some f) a) {fs : List (Str × FC)} {vs : List (Str × V)} (h : FsOk c H O ℓ fs vs) : FsOk c H' O' ℓ fs vs :=
  ⟨h.1, fun f fc q => let ⟨w, e1, e2⟩ := h.2 f fc q; ⟨w, e1, e2.mono e (hp f)⟩⟩
theorem COk.mono (e : Ext c P O O' H H') (hp : ∀ m a, ¬ P (ℓ, m) a) (h : COk c H O v ℓ ct) : COk c H' O' v ℓ ct := by
  cases ct with
  | no => trivial
  | «at» f => exact FOk.mono e (hp _) h
  | ob nm fs =>
    obtain ⟨x, dx, C, vfs, rfl, o, k, hx, r⟩ := h
    obtain ⟨o', hx'⟩ := e.hO x _ _ o (hp _ _) hx
    exact ⟨x, dx, C, vfs, rfl, o', k, hx', FsOk.mono e (fun f => hp _) r⟩
  | ds fs =>
    obtain ⟨x, vfs, rfl, o, hx, r⟩ := h
    obtain ⟨o', hx'⟩ := e.hO x _ _ o (hp _ _) hx
    exact ⟨x, vfs, rfl, o', hx', FsOk.mono e (fun f => hp _) r⟩
theorem RecH.get {o : Option HO} {C dx : Addr} {vfs : List (Str × V)} (h : RecH o C dx vfs) : ∃ u, o = some u := by
  rcases h with h | h <;> exact ⟨_, h⟩
theorem kS_inj : ∀ {a b : List (Str × V)}, a.map kS = b.map kS → a = b
  | [], [], _ => rfl
  | [], _ :: _, h => by cases h
  | _ :: _, [], h => by cases h
  | (x, v) :: a, (y, w) :: b, h => by
    simp only [List.map_cons, List.cons.injEq, kS, Prod.mk.injEq, Sum.inr.injEq] at h
    rw [h.1.1, h.1.2, kS_inj h.2]
theorem RecH.uniq {o : Option HO} {C dx C' dx' : Addr} {vfs vfs' : List (Str × V)} (h : RecH o C dx vfs) (h' : RecH o C' dx' vfs') : vfs = vfs' := by
  rcases h with h | h <;> rcases h' with h' | h' <;> rw [h] at h'
  · cases h'; rfl
  · cases h'
  · cases h'
  · injection h' with e; injection e with e; exact kS_inj e
/-- the temporaries: only those with labels outside of P, and aliases of fields of slots outside of P -/
theorem TOk.mono (e : Ext c P O O' H H') : ∀ {τ : List (V × R)}, (∀ k m a, k < τ.length → ¬ P (.t k, m) a) → (∀ v i f, (v, R.alf i f) ∈ τ → ∀ x C dx vfs, RecH (H x) C dx vfs → ¬ P (.s i, none) x) → TOk c H O σ τ → TOk c H' O' σ τ
  | [], _, _, _ => trivial
  | (v, .al i) :: τ, ht, hf, h => ⟨h.1, TOk.mono e (fun k m a hk => ht k m a (by simp; omega)) (fun v i f m => hf v i f (List.mem_cons_of_mem _ m)) h.2⟩
  | (v, .alf i f) :: τ, ht, hf, h => by
    obtain ⟨⟨x, C, dx, vfs, hb, e1, o, e2, e3⟩, h2⟩ := h
    obtain ⟨u, eu⟩ := e2.get
    obtain ⟨o', e2'⟩ := e.hO x _ _ o (hf v i f List.mem_cons_self _ _ _ _ e2) eu
    exact ⟨⟨x, C, dx, vfs, hb, e1, o', by rw [e2', ← eu]; exact e2, e3⟩, TOk.mono e (fun k m a hk => ht k m a (by simp; omega)) (fun v i f m => hf v i f (List.mem_cons_of_mem _ m)) h2⟩
  | (v, .va ct) :: τ, ht, hf, h => ⟨COk.mono e (fun m a => ht _ m a (by simp)) h.1, TOk.mono e (fun k m a hk => ht k m a (by simp; omega)) (fun v i f m => hf v i f (List.mem_cons_of_mem _ m)) h.2⟩

/-! ### the ways a state goes on -/
def Ow.set (O : Ow) (p : Addr) (m : Option (Lab × Option Str)) : Ow := fun a => if a = p then m else O a
theorem Ow.set_same {p : Addr} {m : Option (Lab × Option Str)} : O.set p m p = m := by simp [Ow.set]
theorem Ow.set_ne {p a : Addr} {m : Option (Lab × Option Str)} (h : a ≠ p) : O.set p m a = O a := by simp [Ow.set, h]

theorem SqT.upd_new {K : PySem.W.Frag} {p a : Addr} {o : HO} {xs : List V} (hp : H p = none) (h : SqT K H a xs) : SqT K (upd H p o) a xs := by
  rcases h with (h | ⟨u, h⟩) | h
  · exact .inl (.inl (by rw [upd_ne (ne_of_none h hp)]; exact h))
  · exact .inl (.inr ⟨u, by rw [upd_ne (ne_of_none h hp)]; exact h⟩)
  · exact .inr h
theorem SqT.upd_old {K : PySem.W.Frag} {p a : Addr} {o u : HO} {xs : List V} (hp : H p = some u) (hu : Mut (some u)) (h : SqT K H a xs) : SqT K (upd H p o) a xs := by
  rcases h with (h | ⟨w, h⟩) | h
  · refine .inl (.inl ?_)
    rw [upd_ne]; · exact h
    intro e; subst e; rw [h] at hp; cases hp; exact hu
  · refine .inl (.inr ⟨w, ?_⟩)
    rw [upd_ne]; · exact h
    intro e; subst e; rw [h] at hp; cases hp; exact hu
  · exact .inr h
/-- a new object, tracked, owned or not -/
theorem Ext.new {p : Addr} {o : HO} {m : Option (Lab × Option Str)} (S : Sim0 c H O ρ τ σ) (hp : H p = none) : Ext c (fun _ _ => False) O (O.set p m) H (upd H p o) where
  hF := fun a o u h => by rw [upd_ne (ne_of_none h hp)]; exact h
  hT := fun a xs h => SqT.upd_new hp h
  hL := fun a xs h n => by
    have ne : a ≠ p := ne_of_none h hp
    refine ⟨by rw [upd_ne ne]; exact h, fun q => n ?_⟩
    rcases q with q | q
    · exact .inl q
    · rw [Ow.set_ne ne] at q; exact .inr q
  hO := fun a ℓ o' h _ h2 => by
    have ne : a ≠ p := ne_of_none h2 hp
    exact ⟨by rw [Ow.set_ne ne]; exact h, by rw [upd_ne ne]; exact h2⟩
/-- an owned object is changed -/
theorem Ext.wr {p : Addr} {o u : HO} {m : Option Str} (hp : H p = some u) (hu : Mut (some u)) (ho : O p = some (ℓ, m)) : Ext c (fun l a => l = (ℓ, m) ∧ a = p) O O H (upd H p o) where
  hF := fun a o' u' h => by
    rw [upd_ne]; · exact h
    intro e; subst e; rw [h] at hp; cases hp; exact hu
  hT := fun a xs h => SqT.upd_old hp hu h
  hL := fun a xs h n => by
    have ne : a ≠ p := fun e => by subst e; exact n (.inr (by rw [ho]; simp))
    exact ⟨by rw [upd_ne ne]; exact h, n⟩
  hO := fun a ℓ' o' h n h2 => by
    have ne : a ≠ p := fun e => by subst e; rw [ho] at h; cases h; exact n ⟨rfl, rfl⟩
    exact ⟨h, by rw [upd_ne ne]; exact h2⟩
/-- an owned object is released -/
theorem Ext.free {p : Addr} {m : Option Str} (ho : O p = some (ℓ, m)) : Ext c (fun l a => l = (ℓ, m) ∧ a = p) O (O.set p none) H H where
  hF := fun _ _ _ h => h
  hT := fun _ _ h => h
  hL := fun a xs h n => by
    refine ⟨h, fun q => n ?_⟩
    rcases q with q | q
    · exact .inl q
    · refine .inr fun z => q ?_
      unfold Ow.set
      split
      · rfl
      · exact z
  hO := fun a ℓ' o' h n h2 => by
    have ne : a ≠ p := fun e => by subst e; rw [ho] at h; cases h; exact n ⟨rfl, rfl⟩
    exact ⟨by rw [Ow.set_ne ne]; exact h, h2⟩
/-- an owned object gets another label -/
theorem Ext.lab {p : Addr} {m m' : Option Str} {ℓ' : Lab} (ho : O p = some (ℓ, m)) : Ext c (fun l a => l = (ℓ, m) ∧ a = p) O (O.set p (some (ℓ', m'))) H H where
  hF := fun _ _ _ h => h
  hT := fun _ _ h => h
  hL := fun a xs h n => by
    refine ⟨h, fun q => n ?_⟩
    rcases q with q | q
    · exact .inl q
    · refine .inr fun z => q ?_
      unfold Ow.set
      split
      · rename_i e; subst e; rw [z] at ho; cases ho
      · exact z
  hO := fun a ℓ' o' h n h2 => by
    have ne : a ≠ p := fun e => by subst e; rw [ho] at h; cases h; exact n ⟨rfl, rfl⟩
    exact ⟨by rw [Ow.set_ne ne]; exact h, h2⟩
theorem Ext.refl : Ext c (fun _ _ => False) O O H H := ⟨fun _ _ _ h => h, fun _ _ h => h, fun _ _ h n => ⟨h, n⟩, fun _ _ _ h _ h2 => ⟨h, h2⟩⟩

theorem Sim0.own_none (S : Sim0 c H O ρ τ σ) {p : Addr} (hp : H p = none) : O p = none := by
  cases q : O p with
  | none => rfl
  | some ℓ => have := (S.ow p ℓ q).2.2; rw [hp] at this; exact this.elim
theorem Sim0.h0_none (S : Sim0 c H O ρ τ σ) {p : Addr} (hp : H p = none) : c.H0 p = none ∨ c.I p := by
  cases q : c.H0 p with
  | none => exact .inl rfl
  | some o =>
    by_cases hi : c.I p
    · exact .inr hi
    · have := S.fr p o q hi
      rw [hp] at this; cases this
theorem Sim0.z_none (S : Sim0 c H O ρ τ σ) {p : Addr} (hp : H p = none) : ¬ c.Z p := fun z => S.zt p z hp

theorem TOk.ndrop {σ : St} {v : V} {r : R} {τ : List (V × R)} (h : TOk c H O σ ((v, r) :: τ)) : TOk c H O σ τ := by
  cases r with
  | al i => exact h.2
  | alf i f => exact h.2
  | va ct => exact h.2
theorem Sim0.pop {r : R} (S : Sim0 c H O ρ ((v, r) :: τ) σ) : Sim0 c H O ρ τ σ := ⟨S.len, S.fr, S.ow, S.zt, S.io, S.sl, S.tm.ndrop⟩
theorem Sim.pop {r : R} (S : Sim c ρ ((v, r) :: τ) σ H) : Sim c ρ τ σ H := let ⟨O, S⟩ := S; ⟨O, S.pop⟩
theorem Sim0.push (S : Sim0 c H O ρ τ σ) (h : COk c H O v (.t τ.length) ct) : Sim0 c H O ρ ((v, .va ct) :: τ) σ := ⟨S.len, S.fr, S.ow, S.zt, S.io, S.sl, h, S.tm⟩
theorem Sim.pushFz (S : Sim c ρ τ σ H) {d : D} (h : ∀ A, Rp c.K H A d v) : Sim c ρ ((v, .va (Fz d)) :: τ) σ H := let ⟨O, S⟩ := S; ⟨O, S.push (h _)⟩

/-! ### a view of a result as data -/
def fcD : FC → Option D
  | .fz d => some d
  | .ow l => some (.lst l)
  | .tow _ l => some (.lst l)
  | _ => none
/-- without its tag -/
def fcU : FC → FC
  | .tow _ l => .ow l
  | .tdk _ k => .dk k
  | f => f
theorem FOk.untag {m : Lab × Option Str} {f : FC} (h : FOk c H O v m f) : FOk c H O v m (fcU f) := by
  cases f with
  | tow p l => obtain ⟨a, vs, e, ⟨o, _⟩, r⟩ := h; exact ⟨a, vs, e, o, r⟩
  | tdk p l => obtain ⟨a, vs, e, ⟨o, _⟩, r⟩ := h; exact ⟨a, vs, e, o, r⟩
  | _ => exact h
def Ct.fields : Ct → Option (List (Str × FC))
  | .ob _ fs => some fs
  | .ds fs => some fs
  | _ => none
theorem COk.recs {fs : List (Str × FC)} (h : COk c H O v ℓ ct) (e : ct.fields = some fs) : ∃ x C dx vfs, v = .ref x ∧ O x = some (ℓ, none) ∧ RecH (H x) C dx vfs ∧ FsOk c H O ℓ fs vfs := by
  cases ct with
  | ob nm fs' => cases e; obtain ⟨x, dx, C, vfs, e, o, k, hx, r⟩ := h; exact ⟨x, C, dx, vfs, e, o, .inl hx, r⟩
  | ds fs' => cases e; obtain ⟨x, vfs, e, o, hx, r⟩ := h; exact ⟨x, 0, 0, vfs, e, o, .inr hx, r⟩
  | _ => cases e
def ctF (ρ : En) : R → Option FC
  | .al i => match ρ[i]? with
    | some (.at f) => some f
    | _ => none
  | .alf i f => match ρ[i]? with
    | some (.ob _ fs) => (fs.lookup f).map fcU
    | some (.ds fs) => (fs.lookup f).map fcU
    | _ => none
  | .va (.at f) => some f
  | .va _ => none
def vw (ρ : En) (r : R) : Option D := (ctF ρ r).bind fcD
theorem FOk.top {m : Lab × Option Str} {f : FC} {d : D} (h : FOk c H O v m f) (e : fcD f = some d) : RpT c.K H (c.av O) d v := by
  cases f with
  | fz d' => cases e; exact Rp.top h
  | ow l =>
    cases e
    obtain ⟨a, vs, rfl, _, ha, r⟩ := h
    exact ⟨a, vs, rfl, ha, r⟩
  | tow p l =>
    cases e
    obtain ⟨a, vs, rfl, _, ha, r⟩ := h
    exact ⟨a, vs, rfl, ha, r⟩
  | _ => cases e
theorem FsOk.get {fs : List (Str × FC)} {vs : List (Str × V)} {f : Str} {fc : FC} (h : FsOk c H O ℓ fs vs) (e : fs.lookup f = some fc) : ∃ v, vs.lookup f = some v ∧ FOk c H O v (ℓ, some f) fc := h.2 f fc e
theorem lookup_keys {α β : Type} : ∀ {fs : List (Str × α)} {vs : List (Str × β)} {f : Str}, vs.map (·.1) = fs.map (·.1) → fs.lookup f = none → vs.lookup f = none
  | [], [], _, _, _ => rfl
  | [], _ :: _, _, h, _ => by cases h
  | _ :: _, [], _, h, _ => by cases h
  | (g, gc) :: fs, (g', v) :: vs, f, h, e => by
    simp only [List.map_cons, List.cons.injEq] at h
    obtain ⟨h1, h2⟩ := h
    subst h1
    cases hb : f == g' with
    | true => rw [List.lookup, hb] at e; cases e
    | false =>
      rw [List.lookup, hb] at e ⊢
      exact lookup_keys h2 e
theorem FsOk.none_get {fs : List (Str × FC)} {vs : List (Str × V)} {f : Str} (h : FsOk c H O ℓ fs vs) (e : fs.lookup f = none) : vs.lookup f = none := lookup_keys h.1 e
theorem FsOk.length {fs : List (Str × FC)} {vs : List (Str × V)} (h : FsOk c H O ℓ fs vs) : vs.length = fs.length := by
  have := congrArg List.length h.1
  simpa using this
/-- where the content of the top temporary lies -/
def rLab (n : Nat) : R → Lab × Option Str
  | .al i => (.s i, none)
  | .alf i f => (.s i, some f)
  | .va _ => (.t n, none)
theorem ctF_al {i : Nat} {f : FC} (e : Pm.ctF ρ (.al i) = some f) : ρ[i]? = some (.at f) := by
  cases q : ρ[i]? with
  | none => simp [Pm.ctF, q] at e
  | some ct => cases ct <;> simp [Pm.ctF, q] at e; rw [e]
theorem ctF_alf {i : Nat} {g : Str} {f : FC} (e : Pm.ctF ρ (.alf i g) = some f) : ∃ ct fs f', ρ[i]? = some ct ∧ ct.fields = some fs ∧ fs.lookup g = some f' ∧ f = fcU f' := by
  cases q : ρ[i]? with
  | none => simp [Pm.ctF, q] at e
  | some ct =>
    cases ct with
    | ob nm fs => simp only [Pm.ctF, q] at e; obtain ⟨f', e1, e2⟩ := Option.map_eq_some_iff.mp e; exact ⟨_, fs, f', rfl, rfl, e1, e2.symm⟩
    | ds fs => simp only [Pm.ctF, q] at e; obtain ⟨f', e1, e2⟩ := Option.map_eq_some_iff.mp e; exact ⟨_, fs, f', rfl, rfl, e1, e2.symm⟩
    | _ => simp [Pm.ctF, q] at e
theorem ctF_va {ct : Ct} {f : FC} (e : Pm.ctF ρ (.va ct) = some f) : ct = .at f := by
  cases ct <;> simp [Pm.ctF] at e; rw [e]
theorem Sim0.ctF {r : R} (S : Sim0 c H O ρ ((v, r) :: τ) σ) {f : FC} (e : ctF ρ r = some f) : FOk c H O v (rLab τ.length r) f := by
  cases r with
  | al i =>
    obtain ⟨⟨_, h1⟩, _⟩ := S.tm
    obtain ⟨w, e1, e2⟩ := S.sl i _ (ctF_al e) (by intro z; cases z)
    rw [h1] at e1; cases e1
    exact e2
  | alf i g =>
    obtain ⟨⟨x, C, dx, vfs, _, e1, _, e2, e3⟩, _⟩ := S.tm
    obtain ⟨ct, fs, f', q, ef, e0, rfl⟩ := ctF_alf e
    obtain ⟨w, e4, e7⟩ := S.sl i _ q (by intro z; subst z; cases ef)
    obtain ⟨x', C', dx', vfs', rfl, o, hx, r⟩ := e7.recs ef
    rw [e1] at e4; cases e4
    have := e2.uniq hx
    subst this
    obtain ⟨u, e5, e6⟩ := r.get e0
    rw [e3] at e5; cases e5
    exact e6.untag
  | va ct =>
    have h := S.tm.1
    rw [ctF_va e] at h
    exact h
theorem Sim0.vw {r : R} (S : Sim0 c H O ρ ((v, r) :: τ) σ) {d : D} (e : vw ρ r = some d) : RpT c.K H (c.av O) d v := by
  unfold Pm.vw at e
  cases q : Pm.ctF ρ r with
  | none => rw [q] at e; cases e
  | some f =>
    rw [q] at e
    exact (S.ctF q).top e
end
end Pm

namespace Pm
open PySem PySem.Spec PyProof.Rows L2
section
variable {c : Cc} {p : Addr} {O O' : Ow} {H H' : Hp} {ρ ρ' : En} {τ : List (V × R)} {σ : St} {v : V} {ℓ : Lab} {ct : Ct}

/-! ### freezing -/
def putA {α : Type} (f : Str) (v : α) : List (Str × α) → List (Str × α)
  | [] => [(f, v)]
  | (g, u) :: r => if f = g then (g, v) :: r else (g, u) :: putA f v r
def fzC (ρ : En) : R → Option (D × En)
  | .al i => match ρ[i]? with
    | some (.at (.fz d)) => some (d, ρ)
    | some (.at (.ow l)) => some (.lst l, ρ.set i (Fz (.lst l)))
    | _ => none
  | .alf i f => match ρ[i]? with
    | some (.ob nm fs) => match fs.lookup f with
      | some (.fz d) => some (d, ρ)
      | some (.ow l) => some (.lst l, ρ.set i (.ob nm (putA f (.fz (.lst l)) fs)))
      | _ => none
    | _ => none
  | .va (.at (.fz d)) => some (d, ρ)
  | .va (.at (.ow l)) => some (.lst l, ρ)
  | .va _ => none
theorem lookup_putA {α : Type} (f g : Str) (v : α) : ∀ {fs : List (Str × α)}, (putA f v fs).lookup g = if g = f then some v else fs.lookup g
  | [] => by
    unfold putA
    by_cases h : g = f
    · subst h; simp [List.lookup]
    · have hb : (g == f) = false := by simpa using h
      rw [if_neg h]
      simp [List.lookup, hb]
  | (k, u) :: r => by
    unfold putA
    by_cases hk : f = k
    · subst hk
      rw [if_pos rfl]
      by_cases h : g = f
      · subst h; simp [List.lookup]
      · have hb : (g == f) = false := by simpa using h
        rw [if_neg h, List.lookup, hb, List.lookup, hb]
    · rw [if_neg hk]
      cases hb : g == k with
      | true =>
        have e : g = k := by simpa using hb
        subst e
        rw [if_neg (fun z => hk z.symm), List.lookup, hb, List.lookup, hb]
      | false =>
        rw [List.lookup, hb, List.lookup, hb]
        exact lookup_putA f g v
theorem keys_putA {α : Type} {f : Str} {v u : α} : ∀ {fs : List (Str × α)}, fs.lookup f = some u → (putA f v fs).map (·.1) = fs.map (·.1)
  | [], h => by cases h
  | (k, w) :: r, h => by
    unfold putA
    by_cases hk : f = k
    · rw [if_pos hk]; rfl
    · rw [if_neg hk]
      have hb : (f == k) = false := by simpa using hk
      rw [List.lookup, hb] at h
      simp only [List.map_cons]
      rw [keys_putA h]
theorem FsOk.put {f : Str} {fc gc : FC} {w : V} {fs : List (Str × FC)} {vs : List (Str × V)} (e : Ext c (fun l a => l = (ℓ, some f) ∧ a = p) O O' H H') (h : FsOk c H O ℓ fs vs) (hl : fs.lookup f = some gc) (hw : vs.lookup f = some w)
    (q : FOk c H' O' w (ℓ, some f) fc) : FsOk c H' O' ℓ (putA f fc fs) vs := by
  refine ⟨by rw [keys_putA hl]; exact h.1, fun g kc z => ?_⟩
  rw [lookup_putA] at z
  by_cases hg : g = f
  · subst hg
    rw [if_pos rfl] at z; cases z
    exact ⟨w, hw, q⟩
  · rw [if_neg hg] at z
    obtain ⟨u, e1, e2⟩ := h.2 g kc z
    exact ⟨u, e1, e2.mono e (by intro a z; cases z.1; exact hg rfl)⟩

theorem av_free {p : Addr} (a : Addr) : c.av (O.set p none) a → c.av O a := by
  rintro (h | h)
  · exact .inl h
  · refine .inr fun z => h ?_
    unfold Ow.set
    split
    · rfl
    · exact z
/-- one slot's content is put anew -/
theorem Sim0.slots_set {m : Option Str} (S : Sim0 c H O ρ τ σ) {i : Nat} (e : Ext c (fun l a => l = (.s i, m) ∧ a = p) O O' H H')
    (hi : ct ≠ .no → ∃ v, σ[i]? = some (some v) ∧ COk c H' O' v (.s i) ct) : ∀ j ct', (ρ.set i ct)[j]? = some ct' → ct' ≠ .no → ∃ v, σ[j]? = some (some v) ∧ COk c H' O' v (.s j) ct' := fun j ct' q n => by
  by_cases hj : j = i
  · subst hj
    by_cases hl : j < ρ.length
    · rw [List.getElem?_set_self hl] at q; cases q; exact hi n
    · rw [List.getElem?_eq_none (by simpa using hl)] at q; cases q
  · rw [List.getElem?_set_ne (Ne.symm hj)] at q
    obtain ⟨v, e1, e2⟩ := S.sl j ct' q n
    exact ⟨v, e1, e2.mono e (by intro m a z; cases z.1; exact hj rfl)⟩
theorem Sim0.ow_free (S : Sim0 c H O ρ τ σ) (p : Addr) : ∀ a ℓ, (O.set p none) a = some ℓ → ¬ c.Z a ∧ (c.H0 a = none ∨ c.I a) ∧ Mut (H a) := fun a ℓ q => by
  unfold Ow.set at q
  split at q
  · cases q
  · exact S.ow a ℓ q
theorem fzC_ok {r : R} {d : D} (S : Sim0 c H O ρ ((v, r) :: τ) σ) (e : fzC ρ r = some (d, ρ')) :
    ∃ O', Sim0 c H O' ρ' τ σ ∧ Rp c.K H (c.av O') d v ∧ ∀ a, c.av O' a → c.av O a := by
  cases r with
  | al i =>
    have hv := S.tm.1.2
    cases q : ρ[i]? with
    | none => simp [fzC, q] at e
    | some ct =>
      cases ct with
      | no => simp [fzC, q] at e
      | ob _ _ => simp [fzC, q] at e
      | ds _ => simp [fzC, q] at e
      | «at» f =>
        obtain ⟨w, e1, e2⟩ := S.sl i _ q (by intro z; cases z)
        rw [hv] at e1; cases e1
        cases f with
        | fz d' =>
          simp [fzC, q] at e
          obtain ⟨rfl, rfl⟩ := e
          exact ⟨O, S.pop, e2, fun _ h => h⟩
        | dk _ => simp [fzC, q] at e
        | tow _ _ => simp [fzC, q] at e
        | tdk _ _ => simp [fzC, q] at e
        | pin _ => simp [fzC, q] at e
        | ow l =>
          simp [fzC, q] at e
          obtain ⟨rfl, rfl⟩ := e
          obtain ⟨a, vs, rfl, o, ha, r⟩ := e2
          have ex := Ext.free (c := c) (H := H) o
          have hr : Rp c.K H (c.av (O.set a none)) (.lst l) (.ref a) := by
            unfold Rp
            refine ⟨a, vs, rfl, ha, ?_, ex.rps r⟩
            rintro (z | z)
            · exact (S.ow a _ o).1 z
            · exact z Ow.set_same
          have S' := S.pop
          refine ⟨O.set a none, ⟨by rw [List.length_set]; exact S.len, S.fr, S.ow_free a, S.zt, S.io, S'.slots_set ex fun _ => ⟨.ref a, hv, hr⟩, S'.tm.mono ex (by intro k m b _ z; cases z.1) (by intro v i f _ x C dx vfs hx z; rw [z.2, ha] at hx; rcases hx with hx | hx <;> cases hx)⟩, hr, av_free⟩
  | alf i f =>
    obtain ⟨⟨x, C, dx, vfs, _, hx1, ox, hx2, hx3⟩, _⟩ := S.tm
    cases q : ρ[i]? with
    | none => simp [fzC, q] at e
    | some ct =>
      cases ct with
      | no => simp [fzC, q] at e
      | «at» _ => simp [fzC, q] at e
      | ds _ => simp [fzC, q] at e
      | ob nm fs =>
        obtain ⟨w, e1, x', dx', C', vfs', rfl, o1, k1, hx', r⟩ := S.sl i _ q (by intro z; cases z)
        rw [hx1] at e1; cases e1
        have hu := hx2.uniq (.inl hx' : RecH (H x) C' dx' vfs')
        subst hu
        have hx2 := hx'
        simp only [fzC, q] at e
        cases q2 : fs.lookup f with
        | none => rw [q2] at e; cases e
        | some fc =>
          obtain ⟨w, e5, e6⟩ := r.get q2
          rw [hx3] at e5; cases e5
          rw [q2] at e
          cases fc with
          | fz d' => cases e; exact ⟨O, S.pop, e6, fun _ h => h⟩
          | dk _ => cases e
          | tow _ _ => cases e
          | tdk _ _ => cases e
          | pin _ => cases e
          | ow l =>
            cases e
            obtain ⟨a, vs, rfl, o, ha, rr⟩ := e6
            have ex := Ext.free (c := c) (H := H) o
            have hr : Rp c.K H (c.av (O.set a none)) (.lst l) (.ref a) := by
              unfold Rp
              refine ⟨a, vs, rfl, ha, ?_, ex.rps rr⟩
              rintro (z | z)
              · exact (S.ow a _ o).1 z
              · exact z Ow.set_same
            have S' := S.pop
            have nax : x ≠ a := by intro z; subst z; rw [hx2] at ha; cases ha
            refine ⟨O.set a none, ⟨by rw [List.length_set]; exact S.len, S.fr, S.ow_free a, S.zt, S.io, S'.slots_set ex fun _ => ⟨_, hx1, x, dx', C', vfs, rfl, by rw [Ow.set_ne nax]; exact o1, k1, hx2, r.put ex q2 hx3 hr⟩, S'.tm.mono ex (by intro k m b _ z; cases z.1) (by intro v i f _ x C dx vfs hx z; cases z.1)⟩, hr, av_free⟩
  | va ct =>
    have h1 := S.tm.1
    have S' := S.pop
    cases ct with
    | no => cases e
    | ob _ _ => cases e
    | ds _ => cases e
    | «at» f =>
      cases f with
      | dk _ => cases e
      | tow _ _ => cases e
      | tdk _ _ => cases e
      | pin _ => cases e
      | fz d' => cases e; exact ⟨O, S', h1, fun _ h => h⟩
      | ow l =>
        cases e
        obtain ⟨a, vs, rfl, o, ha, rr⟩ := h1
        have ex := Ext.free (c := c) (H := H) o
        have hr : Rp c.K H (c.av (O.set a none)) (.lst l) (.ref a) := by
          unfold Rp
          refine ⟨a, vs, rfl, ha, ?_, ex.rps rr⟩
          rintro (z | z)
          · exact (S.ow a _ o).1 z
          · exact z Ow.set_same
        refine ⟨O.set a none, ⟨S'.len, S'.fr, S'.ow_free a, S'.zt, S'.io, fun i ct' q n => ?_, S'.tm.mono ex (by intro k m b hk z; cases z.1; omega) (by intro v i f _ x C dx vfs hx z; cases z.1)⟩, hr, av_free⟩
        obtain ⟨w, e1, e2⟩ := S'.sl i ct' q n
        exact ⟨w, e1, e2.mono ex (by intro m b z; cases z.1)⟩

/-! ### the list of temporaries of an argument list -/
def tmps (τ : List (V × R)) : List V → List R → List (V × R)
  | v :: vs, r :: rs => tmps ((v, r) :: τ) vs rs
  | _, _ => τ
def fzL (ρ : En) : List R → Option (List D × En)
  | [] => some ([], ρ)
  | r :: rs => match fzL ρ rs with
    | some (ds, ρ1) => match fzC ρ1 r with
      | some (d, ρ2) => some (d :: ds, ρ2)
      | none => none
    | none => none
theorem fzL_ok : ∀ {rs : List R} {vs : List V} {τ : List (V × R)} {ρ ρ' : En} {O : Ow} {ds : List D}, vs.length = rs.length → Sim0 c H O ρ (tmps τ vs rs) σ → fzL ρ rs = some (ds, ρ') →
    ∃ O', Sim0 c H O' ρ' τ σ ∧ Rps c.K H (c.av O') ds vs ∧ ∀ a, c.av O' a → c.av O a
  | [], [], τ, ρ, ρ', O, ds, _, S, e => by cases e; exact ⟨O, S, .nil, fun _ h => h⟩
  | [], _ :: _, _, _, _, _, _, hl, _, _ => by cases hl
  | _ :: _, [], _, _, _, _, _, hl, _, _ => by cases hl
  | r :: rs, v :: vs, τ, ρ, ρ', O, ds, hl, S, e => by
    simp only [fzL] at e
    cases q1 : fzL ρ rs with
    | none => rw [q1] at e; cases e
    | some p =>
      obtain ⟨ds1, ρ1⟩ := p
      rw [q1] at e
      simp only at e
      cases q2 : fzC ρ1 r with
      | none => rw [q2] at e; cases e
      | some p =>
        obtain ⟨d, ρ2⟩ := p
        rw [q2] at e
        cases e
        obtain ⟨O1, S1, R1, m1⟩ := fzL_ok (τ := (v, r) :: τ) (by simpa using hl) S q1
        obtain ⟨O2, S2, R2, m2⟩ := fzC_ok S1 q2
        exact ⟨O2, S2, .cons R2 (Rps.mono (fun _ _ _ h => h) (fun _ _ h => h) (fun a xs h n => ⟨h, fun z => n (m2 a z)⟩) _ _ R1), fun a h => m1 a (m2 a h)⟩

/-! ### readings -/
abbrev EK := (Exn → En → Prop) → St → Prop
abbrev TEp := En → (R → En → Prop) → (Exn → En → Prop) → Prop
abbrev TTp := En → (Bool → En → Prop) → (Exn → En → Prop) → Prop
abbrev TAp := En → (List R → En → Prop) → (Exn → En → Prop) → Prop
structure Ep where
  nx : En → Prop
  rt : R → En → Prop
  bk : En → Prop
  ct : En → Prop
  ex : Exn → En → Prop
abbrev TSp := En → Ep → Prop
def NoAlf (τ : List (V × R)) : Prop := ∀ v i f, (v, R.alf i f) ∉ τ
def rd (c : Cc) (ek : EK) (b : Bool) (T : TEp) : TE := fun σ H Q => ∃ ρ τ R0 E0, Sim c ρ τ σ H ∧ T ρ R0 E0 ∧ (∀ r ρ' v H', R0 r ρ' → Sim c ρ' ((v, r) :: τ) σ H' → Q v H') ∧ ek E0 σ ∧ (b = true → NoAlf τ)
def rdT (c : Cc) (ek : EK) (b : Bool) (T : TTp) : TT := fun σ H Q => ∃ ρ τ R0 E0, Sim c ρ τ σ H ∧ T ρ R0 E0 ∧ (∀ b ρ' H', R0 b ρ' → Sim c ρ' τ σ H' → Q b H') ∧ ek E0 σ ∧ (b = true → NoAlf τ)
def rdA (c : Cc) (ek : EK) (b : Bool) (T : TAp) : TA := fun σ H Q => ∃ ρ τ R0 E0, Sim c ρ τ σ H ∧ T ρ R0 E0 ∧ (∀ rs ρ' vs H', R0 rs ρ' → vs.length = rs.length → Sim c ρ' (tmps τ vs rs) σ H' → Q vs H') ∧ ek E0 σ ∧ (b = true → NoAlf τ)
def nA (r : R) (k : Prop) : Prop := match r with
  | .alf _ _ => False
  | _ => k
theorem nA.of {r : R} {k : Prop} {v : V} {τ : List (V × R)} (h : nA r k) : k ∧ (NoAlf τ → NoAlf ((v, r) :: τ)) := by
  cases r with
  | alf i f => exact h.elim
  | al i =>
    refine ⟨h, fun n w j f m => ?_⟩
    rcases List.mem_cons.mp m with e | m
    · cases e
    · exact n w j f m
  | va ct =>
    refine ⟨h, fun n w j f m => ?_⟩
    rcases List.mem_cons.mp m with e | m
    · cases e
    · exact n w j f m
def NoAl (τ : List (V × R)) : Prop := ∀ v r, (v, r) ∈ τ → ∃ ct, r = .va ct
def rdS (c : Cc) (ek : EK) (T : TSp) : TS := fun D σ H => ∃ ρ τ E, Sim c ρ τ σ H ∧ NoAl τ ∧ T ρ E ∧ (∀ ρ' σ' H', E.nx ρ' → Sim c ρ' τ σ' H' → D.nx σ' H') ∧ (∀ ρ' σ' H', E.bk ρ' → Sim c ρ' τ σ' H' → D.bk σ' H') ∧
  (∀ ρ' σ' H', E.ct ρ' → Sim c ρ' τ σ' H' → D.ct σ' H') ∧ (∀ r ρ' v σ' H', E.rt r ρ' → Sim c ρ' ((v, r) :: τ) σ' H' → D.rt v H') ∧ ∀ σ', ek E.ex σ'
abbrev PEp (c : Cc) (ek : EK) (b : Bool) (X : Cx) (e : Expr) (T : TEp) : Prop := PE X e (rd c ek b T)
abbrev PTp (c : Cc) (ek : EK) (b : Bool) (X : Cx) (e : Expr) (T : TTp) : Prop := PT X e (rdT c ek b T)
abbrev PWp (c : Cc) (ek : EK) (b : Bool) (X : Cx) (e : Expr) (T : TTp) : Prop := PW X e (rdT c ek b T)
abbrev PAp (c : Cc) (ek : EK) (b : Bool) (X : Cx) (e : List Expr) (T : TAp) : Prop := PA X e (rdA c ek b T)
abbrev PSp (c : Cc) (ek : EK) (X : Cx) (s : Stmt) (T : TSp) : Prop := PS X s (rdS c ek T)
abbrev PSsp (c : Cc) (ek : EK) (X : Cx) (s : List Stmt) (T : TSp) : Prop := PSs X s (rdS c ek T)
end
end Pm

namespace Pm
open PySem PySem.Spec PyProof.Rows L2
section
variable {c : Cc} {O O' : Ow} {H H' : Hp} {ρ ρ' : En} {τ : List (V × R)} {σ : St} {v : V} {ℓ : Lab} {ct : Ct}

/-! ### new objects -/
theorem Sim0.new {p : Addr} {o : HO} {m : Option (Lab × Option Str)} (S : Sim0 c H O ρ τ σ) (hp : H p = none) (hm : m ≠ none → Mut (some o)) : Sim0 c (upd H p o) (O.set p m) ρ τ σ := by
  have ex := Ext.new (o := o) (m := m) S hp
  refine ⟨S.len, fun a u h n => ?_, fun a ℓ q => ?_, fun a z => ?_, S.io, fun i ct q n => ?_, S.tm.mono ex (fun _ _ _ _ h => h) (fun _ _ _ _ _ _ _ _ _ h => h)⟩
  · have := S.fr a u h n
    rw [upd_ne (ne_of_none this hp)]; exact this
  · by_cases ha : a = p
    · subst ha
      exact ⟨S.z_none hp, S.h0_none hp, by rw [upd_same]; exact hm (by intro z; rw [Ow.set_same, z] at q; cases q)⟩
    · rw [Ow.set_ne ha] at q
      rw [upd_ne ha]
      exact S.ow a ℓ q
  · have := S.zt a z
    rw [upd_ne]
    · exact this
    · intro e; subst e; exact this hp
  · obtain ⟨w, e1, e2⟩ := S.sl i ct q n
    exact ⟨w, e1, e2.mono ex (fun _ _ h => h)⟩
theorem Sim0.newLst {p : Addr} {l : List D} {vs : List V} (S : Sim0 c H O ρ τ σ) (hp : H p = none) (r : Rps c.K H (c.av O) l vs) : Sim c ρ ((.ref p, .va (Wl l)) :: τ) σ (upd H p (.lst vs)) := by
  have ex := Ext.new (o := .lst vs) (m := some (Lab.t τ.length, none)) S hp
  refine ⟨O.set p (some (.t τ.length, none)), (S.new (o := .lst vs) hp fun _ => True.intro).push ?_⟩
  exact ⟨p, vs, rfl, Ow.set_same, upd_same, ex.rps r⟩
theorem Sim0.newTup {p : Addr} {l : List D} {vs : List V} (S : Sim0 c H O ρ τ σ) (hp : H p = none) (r : Rps c.K H (c.av O) l vs) : Sim c ρ ((.ref p, .va (Fz (.tup l))) :: τ) σ (upd H p (.tup vs)) := by
  have ex := Ext.new (o := .tup vs) (m := none) S hp
  refine ⟨O.set p none, (S.new (o := .tup vs) hp fun z => absurd rfl z).push ?_⟩
  show Rp _ _ _ _ _
  unfold Rp
  exact ⟨p, vs, rfl, SqT.of upd_same, ex.rps r⟩

theorem RpT.int {K : PySem.W.Frag} {A : Av} {i : Int} (h : RpT K H A (.int i) v) : v = .int i := by unfold RpT at h; unfold Rp at h; exact h
theorem RpT.str {K : PySem.W.Frag} {A : Av} {i : Str} (h : RpT K H A (.str i) v) : v = .str i := by unfold RpT at h; unfold Rp at h; exact h
theorem RpT.bl {K : PySem.W.Frag} {A : Av} {i : Bool} (h : RpT K H A (.bl i) v) : v = .bl i := by unfold RpT at h; unfold Rp at h; exact h
theorem RpT.non {K : PySem.W.Frag} {A : Av} (h : RpT K H A .non v) : v = .non := by unfold RpT at h; unfold Rp at h; exact h
theorem RpT.tup {K : PySem.W.Frag} {A : Av} {l : List D} (h : RpT K H A (.tup l) v) : ∃ a vs, v = .ref a ∧ SqT K H a vs ∧ Rps K H A l vs := by unfold RpT at h; unfold Rp at h; exact h
theorem RpT.lst {K : PySem.W.Frag} {A : Av} {l : List D} (h : RpT K H A (.lst l) v) : ∃ a vs, v = .ref a ∧ H a = some (.lst vs) ∧ Rps K H A l vs := h
theorem RpT.scr {K : PySem.W.Frag} {A : Av} {ns : List Int} (h : RpT K H A (.scr ns) v) : ∃ a, v = .ref a ∧ ((∃ o, H a = some (.frz o (.lst (ns.map V.int)))) ∨ SqL K (fun _ => none) a (ns.map V.int)) := by unfold RpT at h; unfold Rp at h; exact h
theorem Rp.int {K : PySem.W.Frag} {A : Av} {i : Int} (h : Rp K H A (.int i) v) : v = .int i := by unfold Rp at h; exact h
theorem Rp.ofInt {K : PySem.W.Frag} {A : Av} (i : Int) : Rp K H A (.int i) (.int i) := by unfold Rp; rfl
theorem Rp.ofStr {K : PySem.W.Frag} {A : Av} (i : Str) : Rp K H A (.str i) (.str i) := by unfold Rp; rfl
theorem Rp.ofBl {K : PySem.W.Frag} {A : Av} (i : Bool) : Rp K H A (.bl i) (.bl i) := by unfold Rp; rfl
theorem Rp.ofNon {K : PySem.W.Frag} {A : Av} : Rp K H A .non .non := by unfold Rp; rfl

/-- two temporaries read -/
theorem Sim0.vw2 {x y : V} {ra rb : R} {dx dy : D} (S : Sim0 c H O ρ ((y, rb) :: (x, ra) :: τ) σ) (ex : Pm.vw ρ ra = some dx) (ey : Pm.vw ρ rb = some dy) : RpT c.K H (c.av O) dx x ∧ RpT c.K H (c.av O) dy y := ⟨S.pop.vw ex, S.vw ey⟩
def wD (o : Option D) (k : D → Prop) : Prop := match o with
  | some d => k d
  | none => False
theorem wD.of {o : Option D} {k : D → Prop} (h : wD o k) : ∃ d, o = some d ∧ k d := by
  cases o with
  | none => exact h.elim
  | some d => exact ⟨d, rfl, h⟩

/-! ### data as the library's data -/
mutual
def D.py : D → PyData
  | .non => .none
  | .bl b => .bool b
  | .int i => .int i
  | .str x => .str x
  | .tup l => .tuple (D.pys l)
  | .lst l => .list (D.pys l)
  | .scr ns => .list (ns.map .int)
def D.pys : List D → List PyData
  | [] => []
  | d :: ds => d.py :: D.pys ds
end
theorem dp_ints {K : PySem.W.Frag} : ∀ ns : List Int, DpAll K H (ns.map V.int) (ns.map PyData.int)
  | [] => .nil
  | n :: ns => .cons (.int n) (dp_ints ns)
theorem scr_sq {K : PySem.W.Frag} {a : Addr} {xs : List V} (q : (∃ o, H a = some (.frz o (.lst xs))) ∨ SqL K (fun _ => none) a xs) : SqL K H a xs := by
  rcases q with ⟨o, q⟩ | (z | ⟨o, z⟩) | z
  · exact .inl (.inr ⟨o, q⟩)
  · cases z
  · cases z
  · exact .inr z
mutual
theorem Rp.dp {K : PySem.W.Frag} {A : Av} : ∀ (d : D) (v : V), Rp K H A d v → Dp K H v d.py
  | .non, v, h => by unfold Rp at h; subst h; unfold D.py; exact .non
  | .bl b, v, h => by unfold Rp at h; subst h; unfold D.py; exact .bl b
  | .int i, v, h => by unfold Rp at h; subst h; unfold D.py; exact .int i
  | .str x, v, h => by unfold Rp at h; subst h; unfold D.py; exact .str x
  | .tup l, v, h => by
    unfold Rp at h
    obtain ⟨a, vs, rfl, q, r⟩ := h
    unfold D.py
    exact .tup q (Rps.dp l vs r)
  | .lst l, v, h => by
    unfold Rp at h
    obtain ⟨a, vs, rfl, q, _, r⟩ := h
    unfold D.py
    exact .lst (SqL.of q) (Rps.dp l vs r)
  | .scr ns, v, h => by
    unfold Rp at h
    obtain ⟨a, rfl, q⟩ := h
    unfold D.py
    exact .lst (scr_sq q) (dp_ints ns)
theorem Rps.dp {K : PySem.W.Frag} {A : Av} : ∀ (l : List D) (vs : List V), Rps K H A l vs → DpAll K H vs (D.pys l)
  | [], vs, h => by unfold Rps at h; subst h; unfold D.pys; exact .nil
  | d :: ds, vs, h => by
    unfold Rps at h
    obtain ⟨v, r, rfl, h1, h2⟩ := h
    unfold D.pys
    exact .cons (Rp.dp d v h1) (Rps.dp ds r h2)
end
theorem RpT.dp {K : PySem.W.Frag} {A : Av} {d : D} {v : V} (h : RpT K H A d v) : Dp K H v d.py := by
  cases d with
  | lst l =>
    obtain ⟨a, vs, rfl, q, r⟩ := h
    unfold D.py
    exact .lst (SqL.of q) (Rps.dp l vs r)
  | _ => exact Rp.dp (A := A) _ v h
def shp (d : D) : Prop := SeqAt.shaped d.py = true
def eqD (a b : D) : Bool := PyData.eqv a.py b.py

/-! ### operators by values -/
def DivOk (j : Int) : Prop := j ≠ 0 ∧ j.natAbs.log2 < 9000
def MulOk (i j : Int) : Prop := i.natAbs.log2 + j.natAbs.log2 < 1000000
def opB : Operator → D → D → (Ct → Prop) → Prop
  | .Add, .int i, .int j, Q => Q (Fz (.int (i + j)))
  | .Add, .str a, .str b, Q => a.length + b.length ≤ sizeLine ∧ Q (Fz (.str (a ++ b)))
  | .Add, .lst l, .lst m, Q => l.length + m.length ≤ sizeLine ∧ Q (Wl (l ++ m))
  | .Add, .tup l, .tup m, Q => l.length + m.length ≤ sizeLine ∧ Q (Fz (.tup (l ++ m)))
  | .Sub, .int i, .int j, Q => Q (Fz (.int (i - j)))
  | .Mult, .int i, .int j, Q => MulOk i j ∧ Q (Fz (.int (i * j)))
  | .FloorDiv, .int i, .int j, Q => DivOk j ∧ Q (Fz (.int (Int.fdiv i j)))
  | .Mod, .int i, .int j, Q => j ≠ 0 ∧ Q (Fz (.int (Int.fmod i j)))
  | .Pow, .int i, .int j, Q => (0 ≤ j ∧ j ≤ 1000000 ∧ i.natAbs < 2 ^ 64) ∧ Q (Fz (.int (i ^ j.toNat)))
  | _, _, _, _ => False
def OpOk (c : Cc) (X : Cx) (f : Value → Value → Sem Value) (opT : D → D → (Ct → Prop) → Prop) : Prop :=
  ∀ (pins : List (Addr × Obj)) (s : Shared) (σ : St) (H : Hp) (Q : VK) (ρ : En) (τ : List (V × R)) (x y : V) (v u : Value) (ra rb : R) (dx dy : D) (R0 : Ct → Prop), Inv X pins σ H s → RelV x v → RelV y u →
    Sim c ρ ((y, rb) :: (x, ra) :: τ) σ H → vw ρ ra = some dx → vw ρ rb = some dy → opT dx dy R0 → (∀ ct w H', R0 ct → Sim c ρ ((w, .va ct) :: τ) σ H' → Q w H') → wpAny (model X.prog X.w) X.A (f v u) (EP X pins σ Q) X.xe s
variable {X : Cx} {ek : EK} {fl : Bool}
theorem op_fdivX : OpR X (binaryOp .FloorDiv) (rI (fun _ j => DivOk j) fun i j => .int (i.fdiv j)) := opI fun _ _ _ _ _ _ _ hc q => floordiv_int hc.1 q (.inl (PyProof.noPylong_of_log2 hc.2))
theorem Sim.pop2 {x y : V} {ra rb : R} (S : Sim c ρ ((y, rb) :: (x, ra) :: τ) σ H) : Sim c ρ τ σ H := S.pop.pop
theorem opB_ok (hK : X.K = c.K) (op : Operator) : OpOk c X (binaryOp op) (opB op) := by
  intro pins s σ H Q ρ τ x y v u ra rb dx dy R0 I rx ry S ex ey h q
  obtain ⟨O, S0⟩ := S
  obtain ⟨hx, hy⟩ := S0.vw2 ex ey
  have S2 : Sim c ρ τ σ H := ⟨O, S0.pop.pop⟩
  have ii : ∀ k : Int, R0 (Fz (.int k)) → Q (.int k) H := fun k r => q _ _ _ r (S2.pushFz fun A => Rp.ofInt k)
  unfold opB at h
  split at h
  · cases hx.int; cases hy.int
    exact op_add pins s σ H _ _ v u Q I rx ry ⟨_, _, rfl, rfl, ii _ h⟩
  · cases hx.str; cases hy.str
    exact op_add_str pins s σ H _ _ v u Q I rx ry ⟨_, _, rfl, rfl, h.1, q _ _ _ h.2 (S2.pushFz fun A => Rp.ofStr _)⟩
  · obtain ⟨a, vs, rfl, ha, ra⟩ := hx.lst
    obtain ⟨b, ws, rfl, hb, rb⟩ := hy.lst
    refine op_cat pins s σ H _ _ v u Q I rx ry ⟨a, b, vs, ws, rfl, rfl, ha, hb, by rw [ra.length, rb.length]; exact h.1, fun p hp => ?_⟩
    exact q _ _ _ h.2 (S0.pop.pop.newLst hp (ra.app rb))
  · obtain ⟨a, vs, rfl, ha, ra⟩ := hx.tup
    obtain ⟨b, ws, rfl, hb, rb⟩ := hy.tup
    rw [← hK] at ha hb
    have l1 := ra.length
    have l2 := rb.length
    refine op_catA pins s σ H _ _ v u Q I rx ry ⟨a, b, vs, ws, rfl, rfl, ha, hb, by rw [l1, l2]; exact h.1, fun z => ?_, fun _ z => ?_, fun _ _ p hp => q _ _ _ h.2 (S0.pop.pop.newTup hp (ra.app rb))⟩
    · have hl := List.eq_nil_of_length_eq_zero (l1.symm.trans (congrArg List.length z))
      refine q _ _ _ h.2 ⟨O, S0.pop.pop.push ?_⟩
      rw [hl, List.nil_append]
      unfold COk FOk Rp; exact ⟨b, ws, rfl, by rw [← hK]; exact hb, rb⟩
    · have hl := List.eq_nil_of_length_eq_zero (l2.symm.trans (congrArg List.length z))
      refine q _ _ _ h.2 ⟨O, S0.pop.pop.push ?_⟩
      rw [hl, List.append_nil]
      unfold COk FOk Rp; exact ⟨a, vs, rfl, by rw [← hK]; exact ha, ra⟩
  · cases hx.int; cases hy.int
    exact op_sub pins s σ H _ _ v u Q I rx ry ⟨_, _, rfl, rfl, ii _ h⟩
  · cases hx.int; cases hy.int
    exact op_mulW pins s σ H _ _ v u Q I rx ry ⟨_, _, rfl, rfl, h.1, ii _ h.2⟩
  · cases hx.int; cases hy.int
    exact op_fdivX pins s σ H _ _ v u Q I rx ry ⟨_, _, rfl, rfl, h.1, ii _ h.2⟩
  · cases hx.int; cases hy.int
    exact op_modN pins s σ H _ _ v u Q I rx ry ⟨_, _, rfl, rfl, h.1, ii _ h.2⟩
  · cases hx.int; cases hy.int
    exact op_pow pins s σ H _ _ v u Q I rx ry ⟨_, _, rfl, rfl, h.1, ii _ h.2⟩
  · exact h.elim

/-! ### expressions -/
variable {a b e : Expr} {Ta Tb : TEp} {pos : Pos}
def tNm (i : Nat) : TEp := fun ρ R _ => match ρ[i]? with
  | some (.at (.fz d)) => R (.va (Fz d)) ρ
  | some .no => False
  | some _ => R (.al i) ρ
  | none => False
theorem Sim.name (S : Sim c ρ τ σ H) {i : Nat} (hb : i < c.nb) {R0 : R → En → Prop} {E0 : Exn → En → Prop} (h : tNm i ρ R0 E0) : ∃ v r, σ[i]? = some (some v) ∧ R0 r ρ ∧ Sim c ρ ((v, r) :: τ) σ H := by
  obtain ⟨O, S⟩ := S
  unfold tNm at h
  cases q : ρ[i]? with
  | none => rw [q] at h; exact h.elim
  | some ct =>
    rw [q] at h
    cases ct with
    | no => exact h.elim
    | ob nm fs =>
      obtain ⟨v, e1, e2⟩ := S.sl i _ q (by intro z; cases z)
      exact ⟨v, _, e1, h, O, ⟨S.len, S.fr, S.ow, S.zt, S.io, S.sl, ⟨hb, e1⟩, S.tm⟩⟩
    | ds fs =>
      obtain ⟨v, e1, e2⟩ := S.sl i _ q (by intro z; cases z)
      exact ⟨v, _, e1, h, O, ⟨S.len, S.fr, S.ow, S.zt, S.io, S.sl, ⟨hb, e1⟩, S.tm⟩⟩
    | «at» f =>
      obtain ⟨v, e1, e2⟩ := S.sl i _ q (by intro z; cases z)
      cases f with
      | fz d => exact ⟨v, _, e1, h, O, S.push e2⟩
      | ow l => exact ⟨v, _, e1, h, O, ⟨S.len, S.fr, S.ow, S.zt, S.io, S.sl, ⟨hb, e1⟩, S.tm⟩⟩
      | dk kvs => exact ⟨v, _, e1, h, O, ⟨S.len, S.fr, S.ow, S.zt, S.io, S.sl, ⟨hb, e1⟩, S.tm⟩⟩
      | tow _ _ => exact ⟨v, _, e1, h, O, ⟨S.len, S.fr, S.ow, S.zt, S.io, S.sl, ⟨hb, e1⟩, S.tm⟩⟩
      | tdk _ _ => exact ⟨v, _, e1, h, O, ⟨S.len, S.fr, S.ow, S.zt, S.io, S.sl, ⟨hb, e1⟩, S.tm⟩⟩
      | pin _ => exact ⟨v, _, e1, h, O, ⟨S.len, S.fr, S.ow, S.zt, S.io, S.sl, ⟨hb, e1⟩, S.tm⟩⟩
theorem p_nm (i : Nat) {x : Str} (hb : i < c.nb) (hN : X.N[i]? = some x := by rfl) (hv : Vis X.env.scope x := by first | exact Or.inl rfl | exact Or.inr (Or.inl rfl) | exact Or.inr (Or.inr rfl)) (hd : (x == ("__debug__" : Str)) = false := by decide)
    (hcd : (x == ("__classdict__" : Str)) = false := by decide) : PEp c ek fl X (.Name x pos) (tNm i) := by
  refine ⟨fun pins s σ H Q I h => ?_⟩
  obtain ⟨ρ, τ, R0, E0, S, hT, hQ, hE⟩ := h
  obtain ⟨v, r, e, h1, S1⟩ := S.name hb hT
  exact (pe_var hN hv hd hcd).run pins s σ H Q I ⟨v, e, hQ _ _ _ _ h1 S1⟩
/-- a comprehension's own name -/
def tNmC (i : Nat) : TEp := fun ρ R _ => match ρ[i]? with
  | some (.at (.fz d)) => R (.va (Fz d)) ρ
  | _ => False
theorem p_nmC (i : Nat) {x : Str} (hN : X.N[i]? = some x := by rfl) (hv : Vis X.env.scope x := by first | exact Or.inl rfl | exact Or.inr (Or.inl rfl) | exact Or.inr (Or.inr rfl)) (hd : (x == ("__debug__" : Str)) = false := by decide)
    (hcd : (x == ("__classdict__" : Str)) = false := by decide) : PEp c ek fl X (.Name x pos) (tNmC i) := by
  refine ⟨fun pins s σ H Q I h => ?_⟩
  obtain ⟨ρ, τ, R0, E0, ⟨O, S⟩, hT, hQ, hE⟩ := h
  unfold tNmC at hT
  split at hT
  · rename_i d q
    obtain ⟨v, e1, e2⟩ := S.sl i _ q (by intro z; cases z)
    exact (pe_var hN hv hd hcd).run pins s σ H Q I ⟨v, e1, hQ _ _ _ _ hT ⟨O, S.push e2⟩⟩
  · exact hT.elim
def tK (d : D) : TEp := fun ρ R _ => R (.va (Fz d)) ρ
theorem p_of {d : D} {x : V} (h : PE X e (tC x)) (r : ∀ H A, Rp c.K H A d x) : PEp c ek fl X e (tK d) := by
  refine ⟨fun pins s σ H Q I h' => ?_⟩
  obtain ⟨ρ, τ, R0, E0, S, hT, hQ, hE⟩ := h'
  exact h.run pins s σ H Q I (hQ _ _ _ _ hT (S.pushFz (r H)))
theorem p_int {i : Int} {j : Nat} : PEp c ek fl X (.Constant (.int i) j pos) (tK (.int i)) := p_of pe_int fun _ _ => Rp.ofInt i
theorem p_bl {i : Bool} {j : Nat} : PEp c ek fl X (.Constant (.bool i) j pos) (tK (.bl i)) := p_of pe_bl fun _ _ => Rp.ofBl i
theorem p_str {i : Str} {j : Nat} : PEp c ek fl X (.Constant (.str i) j pos) (tK (.str i)) := p_of pe_str fun _ _ => Rp.ofStr i
theorem p_non {j : Nat} : PEp c ek fl X (.Constant .none j pos) (tK .non) := p_of pe_non fun _ _ => Rp.ofNon
theorem p_glob {x : Str} {d : D} {v : V} {u : Value} (hg : Gl X x) (hm : X.mg x = some u) (r : RelV v u) (hd : ∀ H A, Rp c.K H A d v) (hdb : (x == ("__debug__" : Str)) = false := by decide) : PEp c ek fl X (.Name x pos) (tK d) := p_of (pe_glob hg hm r hdb) hd

def tBin (opT : D → D → (Ct → Prop) → Prop) (Ta Tb : TEp) : TEp := fun ρ R E => Ta ρ (fun ra ρ1 => nA ra <| Tb ρ1 (fun rb ρ2 => wD (vw ρ2 ra) fun x => wD (vw ρ2 rb) fun y => opT x y fun ct => R (.va ct) ρ2) E) E
theorem bin_run {opT : D → D → (Ct → Prop) → Prop} {f : Value → Value → Sem Value} (ho : OpOk c X f opT) (ha : PEp c ek fl X a Ta) (hb : PEp c ek fl X b Tb) {pins : List (Addr × Obj)} {s : Shared} {Q : VK} (I : Inv X pins σ H s) (h : rd c ek fl (tBin opT Ta Tb) σ H Q) :
    wpAny (model X.prog X.w) X.A (eval a X.env) (fun v s₁ => wpAny (model X.prog X.w) X.A (eval b X.env) (fun u s₂ => wpAny (model X.prog X.w) X.A (f v u) (EP X pins σ Q) X.xe s₂) X.xe s₁) X.xe s := by
  obtain ⟨ρ, τ, R0, E0, S, hT, hQ, hE⟩ := h
  refine bin ha hb I (R := fun x y H2 => ∃ ρ2 ra rb, Sim c ρ2 ((y, rb) :: (x, ra) :: τ) σ H2 ∧ wD (vw ρ2 ra) fun dx => wD (vw ρ2 rb) fun dy => opT dx dy (fun ct => R0 (.va ct) ρ2)) ?_ fun v u s2 x y H2 I2 rx ry q => ?_
  · exact ⟨ρ, τ, _, E0, S, hT, fun ra ρ1 x H1 h1 S1 => let ⟨h1, n⟩ := h1.of; ⟨ρ1, _, _, E0, S1, h1, fun rb ρ2 y H2 h2 S2 => ⟨ρ2, ra, rb, S2, h2⟩, hE.1, fun z => n (hE.2 z)⟩, hE⟩
  · obtain ⟨ρ2, ra, rb, S2, q⟩ := q
    obtain ⟨dx, ex, q⟩ := q.of
    obtain ⟨dy, ey, q⟩ := q.of
    exact ho pins s2 σ H2 Q ρ2 τ x y v u ra rb dx dy _ I2 rx ry S2 ex ey q fun ct w H' h1 S' => hQ _ _ _ _ h1 S'
theorem p_op {op : Operator} (ha : PEp c ek fl X a Ta) (hb : PEp c ek fl X b Tb) (hK : X.K = c.K := by rfl) : PEp c ek fl X (.BinOp a op b pos) (tBin (opB op) Ta Tb) :=
  ⟨fun pins s σ H Q I h => wpAny_BinOp (bin_run (opB_ok hK op) ha hb I h)⟩

/-! ### comparisons -/
def isNon : D → Bool
  | .non => true
  | _ => false
def opC (op : CmpOp) (x y : D) (Q : Bool → Prop) : Prop := match op, x, y with
  | .Lt, .int i, .int j => Q (decide (i < j))
  | .LtE, .int i, .int j => Q (decide (i ≤ j))
  | .Gt, .int i, .int j => Q (decide (j < i))
  | .GtE, .int i, .int j => Q (decide (j ≤ i))
  | .Eq, .str a, .str b => Q (decide (a = b))
  | .NotEq, .str a, .str b => Q (!decide (a = b))
  | .Eq, x, y => shp x ∧ shp y ∧ Q (eqD x y)
  | .NotEq, x, y => shp x ∧ shp y ∧ Q (!eqD x y)
  | .Is, x, .non => Q (isNon x)
  | .IsNot, x, .non => Q (!isNon x)
  | .In, x, .lst l => shp x ∧ shp (.lst l) ∧ Q (l.any fun z => eqD z x)
  | .NotIn, x, .lst l => shp x ∧ shp (.lst l) ∧ Q (!l.any fun z => eqD z x)
  | .In, .str a, .str b => Q (!(Builtin.Str.occurrences b a 0 b.length 1).isEmpty)
  | .NotIn, .str a, .str b => Q (!(!(Builtin.Str.occurrences b a 0 b.length 1).isEmpty))
  | .In, .str a, .tup l => ∃ ss : List Str, l = ss.map .str ∧ Q (decide (a ∈ ss))
  | .NotIn, .str a, .tup l => ∃ ss : List Str, l = ss.map .str ∧ Q (!decide (a ∈ ss))
  | _, _, _ => False
theorem rps_strs {K : PySem.W.Frag} {A : Av} : ∀ {ss : List Str} {vs : List V}, Rps K H A (ss.map .str) vs → vs = ss.map V.str
  | [], vs, h => by rw [List.map_nil] at h; unfold Rps at h; subst h; rfl
  | x :: ss, vs, h => by
    rw [List.map_cons] at h
    unfold Rps at h
    obtain ⟨v, w, rfl, h1, h2⟩ := h
    rw [rps_strs h2, h1.top.str]; rfl
theorem inV_strs {a : Str} : ∀ ss : List Str, inV (V.str a) (ss.map V.str) = decide (a ∈ ss)
  | [] => by simp [inV]
  | x :: ss => by
    have ih := inV_strs (a := a) ss
    unfold inV at ih ⊢
    rw [List.map_cons, List.any_cons, ih]
    show (eqV (V.str x) (V.str a) || _) = _
    have e : eqV (V.str x) (V.str a) = decide (a = x) := by
      show (x == a) = _
      by_cases h : a = x
      · subst h; simp
      · rw [decide_eq_false h]; simp; exact fun z => h z.symm
    rw [e]
    by_cases h1 : a = x <;> by_cases h2 : a ∈ ss <;> simp [h1, h2]
theorem flat_strV (ss : List Str) : (ss.map V.str).all flatV = true := by
  rw [List.all_map]
  exact List.all_eq_true.mpr fun _ _ => rfl
theorem opC_mono {op : CmpOp} {x y : D} {Q Q' : Bool → Prop} (h : ∀ b, Q b → Q' b) (q : opC op x y Q) : opC op x y Q' := by
  unfold opC at q ⊢
  split at q <;> first | exact h _ q | exact ⟨q.1, q.2.1, h _ q.2.2⟩ | exact q.imp (fun _ z => ⟨z.1, h _ z.2⟩) | exact q.elim
theorem any_pys (x : D) : ∀ l : List D, (D.pys l).any (fun z => PyData.eqv z x.py) = l.any fun z => eqD z x
  | [] => by unfold D.pys; rfl
  | d :: ds => by
    unfold D.pys
    simp only [List.any_cons]
    rw [any_pys x ds]; rfl
theorem non_iff {K : PySem.W.Frag} {A : Av} {d : D} (h : RpT K H A d v) : decide (v = .non) = isNon d := by
  cases d with
  | non => rw [h.non]; rfl
  | bl b => rw [h.bl]; rfl
  | int b => rw [h.int]; rfl
  | str b => rw [h.str]; rfl
  | tup b => obtain ⟨a, vs, rfl, _⟩ := h.tup; rfl
  | lst b => obtain ⟨a, vs, rfl, _⟩ := h.lst; rfl
  | scr b => obtain ⟨a, rfl, _⟩ := h.scr; rfl
theorem str_dec {x y : Str} : decide (V.str x = V.str y) = decide (x = y) := decide_eq_decide.mpr ⟨fun z => by cases z; rfl, fun z => by rw [z]⟩
theorem opC_ok (hK : X.K = c.K) (hu : X.A.units + 65 < cLine) (op : CmpOp) : OpOk c X (compareOp op) (fun x y Q => opC op x y fun b => Q (Fz (.bl b))) := by
  intro pins s σ H Q ρ τ x y v u ra rb dx dy R0 I rx ry S ex ey h q
  obtain ⟨O, S0⟩ := S
  obtain ⟨hx, hy⟩ := S0.vw2 ex ey
  have S2 : Sim c ρ τ σ H := ⟨O, S0.pop.pop⟩
  have bb : ∀ k : Bool, R0 (Fz (.bl k)) → Q (.bl k) H := fun k r => q _ _ _ r (S2.pushFz fun A => Rp.ofBl k)
  have h : opC op dx dy (fun b => R0 (Fz (.bl b))) := h
  have dx' : Dp X.K H x dx.py := by rw [hK]; exact hx.dp
  have dy' : Dp X.K H y dy.py := by rw [hK]; exact hy.dp
  unfold opC at h
  split at h
  · cases hx.int; cases hy.int
    exact op_lt pins s σ H _ _ v u Q I rx ry ⟨_, _, rfl, rfl, bb _ h⟩
  · cases hx.int; cases hy.int
    exact op_le pins s σ H _ _ v u Q I rx ry ⟨_, _, rfl, rfl, bb _ h⟩
  · cases hx.int; cases hy.int
    exact op_gt pins s σ H _ _ v u Q I rx ry ⟨_, _, rfl, rfl, bb _ h⟩
  · cases hx.int; cases hy.int
    exact op_ge pins s σ H _ _ v u Q I rx ry ⟨_, _, rfl, rfl, bb _ h⟩
  · cases hx.str; cases hy.str
    have e := @str_dec
    exact op_eq pins s σ H _ _ v u Q I rx ry ⟨rfl, by rw [e]; exact bb _ h⟩
  · cases hx.str; cases hy.str
    have e := @str_dec
    exact op_ne pins s σ H _ _ v u Q I rx ry ⟨rfl, by rw [e]; exact bb _ h⟩
  · exact op_eqD (by omega) pins s σ H _ _ v u Q I rx ry ⟨_, _, dx', dy', h.1, h.2.1, bb _ h.2.2⟩
  · exact op_neD (by omega) pins s σ H _ _ v u Q I rx ry ⟨_, _, dx', dy', h.1, h.2.1, bb _ h.2.2⟩
  · refine op_isN pins s σ H _ _ v u Q I rx ry ⟨hy.non, ?_⟩
    rw [non_iff hx]; exact bb _ h
  · refine op_notN pins s σ H _ _ v u Q I rx ry ⟨hy.non, ?_⟩
    rw [non_iff hx]; exact bb _ h
  · rename_i l _
    have dy'' : Dp X.K H y (.list (D.pys l)) := by have := dy'; unfold D.py at this; exact this
    have h2 := h.2.1
    unfold shp D.py at h2
    refine op_inD hu pins s σ H _ _ v u Q I rx ry ⟨_, _, dx', dy'', h.1, h2, ?_⟩
    rw [any_pys]; exact bb _ h.2.2
  · rename_i l _
    have dy'' : Dp X.K H y (.list (D.pys l)) := by have := dy'; unfold D.py at this; exact this
    have h2 := h.2.1
    unfold shp D.py at h2
    refine op_notInD hu pins s σ H _ _ v u Q I rx ry ⟨_, _, dx', dy'', h.1, h2, ?_⟩
    rw [any_pys]; exact bb _ h.2.2
  · cases hx.str; cases hy.str
    exact op_in_str pins s σ H _ _ v u Q I rx ry ⟨_, _, rfl, rfl, bb _ h⟩
  · cases hx.str; cases hy.str
    exact op_notin_str pins s σ H _ _ v u Q I rx ry ⟨_, _, rfl, rfl, bb _ h⟩
  · obtain ⟨ss, e, h2⟩ := h
    subst e
    cases hx.str
    obtain ⟨p, vs, rfl, hq, rr⟩ := hy.tup
    have ev := rps_strs rr
    subst ev
    rw [← hK] at hq
    exact op_in_seq pins s σ H _ _ v u Q I rx ry ⟨p, _, rfl, .inr hq, rfl, flat_strV ss, by rw [if_neg Bool.false_ne_true, inV_strs]; exact bb _ h2⟩
  · obtain ⟨ss, e, h2⟩ := h
    subst e
    cases hx.str
    obtain ⟨p, vs, rfl, hq, rr⟩ := hy.tup
    have ev := rps_strs rr
    subst ev
    rw [← hK] at hq
    exact op_notIn_seq pins s σ H _ _ v u Q I rx ry ⟨p, _, rfl, .inr hq, rfl, flat_strV ss, by rw [if_pos rfl, inV_strs]; exact bb _ h2⟩
  · exact h.elim
def tCmp (op : CmpOp) (Ta Tb : TEp) : TEp := tBin (fun x y Q => opC op x y fun b => Q (Fz (.bl b))) Ta Tb
def tCmpT (op : CmpOp) (Ta Tb : TEp) : TTp := fun ρ R E => Ta ρ (fun ra ρ1 => nA ra <| Tb ρ1 (fun rb ρ2 => wD (vw ρ2 ra) fun x => wD (vw ρ2 rb) fun y => opC op x y fun b => R b ρ2) E) E
theorem p_cmp {op : CmpOp} (hu : X.A.units + 65 < cLine) (ha : PEp c ek fl X a Ta) (hb : PEp c ek fl X b Tb) (hm : behindInMarks op b = false := by first | rfl | exact nomark _) (hK : X.K = c.K := by rfl) : PEp c ek fl X (.Compare a [op] [b] pos) (tCmp op Ta Tb) :=
  ⟨fun pins s σ H Q I h => wpAny_Compare1 (bin_run (opC_ok hK hu op) ha hb I h) hm⟩
theorem t_cmp {op : CmpOp} (hu : X.A.units + 65 < cLine) (ha : PEp c ek fl X a Ta) (hb : PEp c ek fl X b Tb) (hm : behindInMarks op b = false := by first | rfl | exact nomark _) (hK : X.K = c.K := by rfl) : PTp c ek fl X (.Compare a [op] [b] pos) (tCmpT op Ta Tb) := by
  refine ⟨fun pins s σ H Q I h => ?_⟩
  obtain ⟨ρ, τ, R0, E0, S, hT, hQ, hE⟩ := h
  refine wpAny_isTrue_Compare1 (bin ha hb I (R := fun x y H2 => ∃ ρ2 ra rb, Sim c ρ2 ((y, rb) :: (x, ra) :: τ) σ H2 ∧ wD (vw ρ2 ra) fun dx => wD (vw ρ2 rb) fun dy => opC op dx dy (fun b => R0 b ρ2)) ?_ fun v u s2 x y H2 I2 rx ry q => ?_) hm
  · exact ⟨ρ, τ, _, E0, S, hT, fun ra ρ1 x H1 h1 S1 => let ⟨h1, n⟩ := h1.of; ⟨ρ1, _, _, E0, S1, h1, fun rb ρ2 y H2 h2 S2 => ⟨ρ2, ra, rb, S2, h2⟩, hE.1, fun z => n (hE.2 z)⟩, hE⟩
  · obtain ⟨ρ2, ra, rb, S2, q⟩ := q
    obtain ⟨dx, ex, q⟩ := q.of
    obtain ⟨dy, ey, q⟩ := q.of
    refine thn (opC_ok hK hu op pins s2 σ H2 (fun v H' => ∃ k, v = .bl k ∧ Q k H') ρ2 τ x y v u ra rb dx dy (fun ct => ∃ k, ct = Fz (.bl k) ∧ R0 k ρ2) I2 rx ry S2 ex ey (opC_mono (fun b h => ⟨b, rfl, h⟩) q) fun ct w H' h1 S' => ?_) fun c s3 ⟨x, H1, I1, r1, q1⟩ => ?_
    · obtain ⟨k, rfl, h1⟩ := h1
      obtain ⟨O, S1⟩ := S'
      have h3 : Rp c.K H' (c.av O) (.bl k) w := S1.tm.1
      exact ⟨k, h3.top.bl, hQ k _ _ h1 ⟨O, S1.pop⟩⟩
    · obtain ⟨d, rfl, q⟩ := q1
      cases r1
      exact wpAny_truthy_bool ⟨H1, I1, q⟩
end
end Pm

namespace Pm
open PySem PySem.Spec PyProof.Rows L2
section
variable {c : Cc} {O O' : Ow} {H H' : Hp} {ρ ρ' : En} {τ : List (V × R)} {σ : St} {v : V} {ℓ : Lab} {ct : Ct} {X : Cx} {ek : EK} {fl : Bool}
variable {a b e : Expr} {rest : List Expr} {Ta Tb : TEp} {TA' TB' : TTp} {pos : Pos}

/-! ### tests -/
def truD : D → Bool
  | .non => false
  | .bl b => b
  | .int i => i != 0
  | .str x => (x.length : Int) != 0
  | .tup l => !l.isEmpty
  | .lst l => !l.isEmpty
  | .scr l => !l.isEmpty
def truS : D → Prop
  | .str x => x.length ≤ sizeLine
  | _ => True
theorem isEmpty_len {α β : Type} {l : List α} {m : List β} (h : l.length = m.length) : l.isEmpty = m.isEmpty := by
  cases l <;> cases m <;> first | rfl | (simp at h)
theorem truV {K : PySem.W.Frag} {A : Av} {d : D} (h : RpT K H A d v) (hs : truS d) : TruV K v H (truD d) := by
  cases d with
  | non => rw [h.non]; rfl
  | bl b => rw [h.bl]; rfl
  | int i => rw [h.int]; rfl
  | str x => rw [h.str]; exact ⟨hs, rfl⟩
  | tup l =>
    obtain ⟨a, vs, rfl, q, r⟩ := h.tup
    exact .inr (.inl ⟨vs, q, by unfold truD; rw [isEmpty_len r.length]⟩)
  | lst l =>
    obtain ⟨a, vs, rfl, q, r⟩ := h.lst
    exact .inl ⟨vs, SqL.of q, by unfold truD; rw [isEmpty_len r.length]⟩
  | scr l =>
    obtain ⟨a, rfl, q⟩ := h.scr
    exact .inl ⟨_, scr_sq q, by simp [truD]⟩
/-- truth of any expression's value -/
def tTru (Ta : TEp) : TTp := fun ρ R E => Ta ρ (fun r ρ1 => wD (vw ρ1 r) fun d => truS d ∧ R (truD d) ρ1) E
theorem t_tru (ha : PEp c ek fl X a Ta) (he : ∀ whole, isTrue a X.env whole = (do let v ← whole; standAt a.pos; holding [v] (truthy v)) := by intro _; rfl) (hK : X.K = c.K := by rfl) : PTp c ek fl X a (tTru Ta) := by
  refine ⟨fun pins s σ H Q I h => ?_⟩
  obtain ⟨ρ, τ, R0, E0, S, hT, hQ, hE⟩ := h
  refine (pt_truth ha he).run pins s σ H Q I ?_
  refine ⟨ρ, τ, _, E0, S, hT, fun r ρ1 v H1 h1 S1 => ?_, hE⟩
  obtain ⟨d, e1, h2, h3⟩ := h1.of
  obtain ⟨O, S1⟩ := S1
  exact ⟨_, by rw [hK]; exact truV (S1.vw e1) h2, hQ _ _ _ h3 ⟨O, S1.pop⟩⟩
def tAnd (t u : TTp) : TTp := fun ρ R E => t ρ (fun b ρ1 => if b = true then u ρ1 R E else R false ρ1) E
def tOr (t u : TTp) : TTp := fun ρ R E => t ρ (fun b ρ1 => if b = true then R true ρ1 else u ρ1 R E) E
def tNot (t : TTp) : TTp := fun ρ R E => t ρ (fun b ρ1 => R (!b) ρ1) E
theorem t_and1 (ha : PTp c ek fl X a TA') : PWp c ek fl X (.BoolOp .And [a] pos) TA' := pw_and1 ha
theorem t_or1 (ha : PTp c ek fl X a TA') : PWp c ek fl X (.BoolOp .Or [a] pos) TA' := pw_or1 ha
theorem t_and (ha : PTp c ek fl X a TA') (hb : PWp c ek fl X (.BoolOp .And (b :: rest) pos) TB') : PWp c ek fl X (.BoolOp .And (a :: b :: rest) pos) (tAnd TA' TB') := by
  refine ⟨fun wh pins s σ H Q I h => ?_⟩
  obtain ⟨ρ, τ, R0, E0, S, hT, hQ, hE⟩ := h
  refine (pw_and ha hb).run wh pins s σ H Q I ⟨ρ, τ, _, E0, S, hT, fun k ρ1 H1 h1 S1 => ?_, hE⟩
  cases k with
  | true => rw [if_pos rfl] at h1 ⊢; exact ⟨ρ1, τ, R0, E0, S1, h1, hQ, hE⟩
  | false => rw [if_neg Bool.false_ne_true] at h1 ⊢; exact hQ _ _ _ h1 S1
theorem t_or (ha : PTp c ek fl X a TA') (hb : PWp c ek fl X (.BoolOp .Or (b :: rest) pos) TB') : PWp c ek fl X (.BoolOp .Or (a :: b :: rest) pos) (tOr TA' TB') := by
  refine ⟨fun wh pins s σ H Q I h => ?_⟩
  obtain ⟨ρ, τ, R0, E0, S, hT, hQ, hE⟩ := h
  refine (pw_or ha hb).run wh pins s σ H Q I ⟨ρ, τ, _, E0, S, hT, fun k ρ1 H1 h1 S1 => ?_, hE⟩
  cases k with
  | true => rw [if_pos rfl] at h1 ⊢; exact hQ _ _ _ h1 S1
  | false => rw [if_neg Bool.false_ne_true] at h1 ⊢; exact ⟨ρ1, τ, R0, E0, S1, h1, hQ, hE⟩
theorem t_not (ha : PTp c ek fl X a TA') : PTp c ek fl X (.UnaryOp .Not a pos) (tNot TA') := by
  refine ⟨fun pins s σ H Q I h => ?_⟩
  obtain ⟨ρ, τ, R0, E0, S, hT, hQ, hE⟩ := h
  exact (pt_not ha).run pins s σ H Q I ⟨ρ, τ, _, E0, S, hT, fun k ρ1 H1 h1 S1 => hQ _ _ _ h1 S1, hE⟩
theorem t_pw (h : PWp c ek fl X e TA') : PTp c ek fl X e TA' := h.pt
/-- and, or, not as values: of bools -/
def isB (r : R) (k : Bool → Prop) : Prop := match r with
  | .va (.at (.fz (.bl b))) => k b
  | _ => False
theorem isB.of {r : R} {k : Bool → Prop} (h : isB r k) : ∃ b, r = .va (Fz (.bl b)) ∧ k b := by
  unfold isB at h
  split at h
  · exact ⟨_, rfl, h⟩
  · exact h.elim
theorem Sim.bl {k : Bool} (S : Sim c ρ ((v, .va (Fz (.bl k))) :: τ) σ H) : v = .bl k := by
  obtain ⟨O, S⟩ := S
  have h3 : Rp c.K H (c.av O) (.bl k) v := S.tm.1
  exact h3.top.bl
def tAndV (Ta Tb : TEp) : TEp := fun ρ R E => Ta ρ (fun r ρ1 => isB r fun b => if b = true then Tb ρ1 R E else R (.va (Fz (.bl false))) ρ1) E
def tOrV (Ta Tb : TEp) : TEp := fun ρ R E => Ta ρ (fun r ρ1 => isB r fun b => if b = true then R (.va (Fz (.bl true))) ρ1 else Tb ρ1 R E) E
def tNotV (Ta : TEp) : TEp := fun ρ R E => Ta ρ (fun r ρ1 => isB r fun b => R (.va (Fz (.bl (!b)))) ρ1) E
theorem p_one {op : BoolOp} (ha : PEp c ek fl X a Ta) : PEp c ek fl X (.BoolOp op [a] pos) Ta := pe_one ha
theorem p_and (ha : PEp c ek fl X a Ta) (hb : PEp c ek fl X (.BoolOp .And (b :: rest) pos) Tb) : PEp c ek fl X (.BoolOp .And (a :: b :: rest) pos) (tAndV Ta Tb) := by
  refine ⟨fun pins s σ H Q I h => ?_⟩
  obtain ⟨ρ, τ, R0, E0, S, hT, hQ, hE⟩ := h
  refine (pe_and ha hb).run pins s σ H Q I ⟨ρ, τ, _, E0, S, hT, fun r ρ1 v H1 h1 S1 => ?_, hE⟩
  obtain ⟨k, rfl, h2⟩ := h1.of
  refine ⟨k, S1.bl, ?_⟩
  cases k with
  | true => rw [if_pos rfl] at h2 ⊢; exact ⟨ρ1, τ, R0, E0, S1.pop, h2, hQ, hE⟩
  | false => rw [if_neg Bool.false_ne_true] at h2 ⊢; exact hQ _ _ _ _ h2 (S1.pop.pushFz fun A => Rp.ofBl _)
theorem p_or (ha : PEp c ek fl X a Ta) (hb : PEp c ek fl X (.BoolOp .Or (b :: rest) pos) Tb) : PEp c ek fl X (.BoolOp .Or (a :: b :: rest) pos) (tOrV Ta Tb) := by
  refine ⟨fun pins s σ H Q I h => ?_⟩
  obtain ⟨ρ, τ, R0, E0, S, hT, hQ, hE⟩ := h
  refine (pe_or ha hb).run pins s σ H Q I ⟨ρ, τ, _, E0, S, hT, fun r ρ1 v H1 h1 S1 => ?_, hE⟩
  obtain ⟨k, rfl, h2⟩ := h1.of
  refine ⟨k, S1.bl, ?_⟩
  cases k with
  | true => rw [if_pos rfl] at h2 ⊢; exact hQ _ _ _ _ h2 (S1.pop.pushFz fun A => Rp.ofBl _)
  | false => rw [if_neg Bool.false_ne_true] at h2 ⊢; exact ⟨ρ1, τ, R0, E0, S1.pop, h2, hQ, hE⟩
theorem p_not (ha : PEp c ek fl X a Ta) : PEp c ek fl X (.UnaryOp .Not a pos) (tNotV Ta) := by
  refine ⟨fun pins s σ H Q I h => ?_⟩
  obtain ⟨ρ, τ, R0, E0, S, hT, hQ, hE⟩ := h
  refine (pe_not ha).run pins s σ H Q I ⟨ρ, τ, _, E0, S, hT, fun r ρ1 v H1 h1 S1 => ?_, hE⟩
  obtain ⟨k, rfl, h2⟩ := h1.of
  exact ⟨k, S1.bl, hQ _ _ _ _ h2 (S1.pop.pushFz fun A => Rp.ofBl _)⟩
def tIfE (t : TTp) (Ta Tb : TEp) : TEp := fun ρ R E => t ρ (fun b ρ1 => if b = true then Ta ρ1 R E else Tb ρ1 R E) E
theorem p_if {t : Expr} (ht : PTp c ek fl X t TA') (ha : PEp c ek fl X a Ta) (hb : PEp c ek fl X b Tb) : PEp c ek fl X (.IfExp t a b pos) (tIfE TA' Ta Tb) := by
  refine ⟨fun pins s σ H Q I h => ?_⟩
  obtain ⟨ρ, τ, R0, E0, S, hT, hQ, hE⟩ := h
  refine (pe_ifExp ht ha hb).run pins s σ H Q I ⟨ρ, τ, _, E0, S, hT, fun k ρ1 H1 h1 S1 => ?_, hE⟩
  cases k with
  | true => rw [if_pos rfl] at h1 ⊢; exact ⟨ρ1, τ, R0, E0, S1, h1, hQ, hE⟩
  | false => rw [if_neg Bool.false_ne_true] at h1 ⊢; exact ⟨ρ1, τ, R0, E0, S1, h1, hQ, hE⟩
def tNeg (Ta : TEp) : TEp := fun ρ R E => Ta ρ (fun r ρ1 => match vw ρ1 r with | some (.int i) => R (.va (Fz (.int (-i)))) ρ1 | _ => False) E
theorem p_neg (ha : PEp c ek fl X a Ta) : PEp c ek fl X (.UnaryOp .USub a pos) (tNeg Ta) := by
  refine ⟨fun pins s σ H Q I h => ?_⟩
  obtain ⟨ρ, τ, R0, E0, S, hT, hQ, hE⟩ := h
  refine (pe_un un_neg ha).run pins s σ H Q I ⟨ρ, τ, _, E0, S, hT, fun r ρ1 v H1 h1 S1 => ?_, hE⟩
  obtain ⟨O, S1⟩ := S1
  split at h1
  · rename_i i q
    exact ⟨i, (S1.vw q).int, hQ _ _ _ _ h1 (Sim.pushFz ⟨O, S1.pop⟩ fun A => Rp.ofInt _)⟩
  · exact h1.elim

/-! ### argument lists, displays -/
def tANil : TAp := fun ρ R _ => R [] ρ
def tACons (Te : TEp) (TA : TAp) : TAp := fun ρ R E => Te ρ (fun r ρ1 => nA r <| TA ρ1 (fun rs ρ2 => R (r :: rs) ρ2) E) E
variable {Te : TEp} {TA TB : TAp} {es : List Expr}
theorem a_nil : PAp c ek fl X [] tANil := by
  refine ⟨fun p pins s σ H Q I h => ?_⟩
  obtain ⟨ρ, τ, R0, E0, S, hT, hQ, hE⟩ := h
  exact pa_nil.run p pins s σ H Q I (hQ [] ρ [] H hT rfl S)
theorem a_cons (ha : PEp c ek fl X e Te) (hr : PAp c ek fl X es TA) (hs : starEach (e :: es) X.env = (false, eval e X.env) :: starEach es X.env := by rfl) : PAp c ek fl X (e :: es) (tACons Te TA) := by
  refine ⟨fun p pins s σ H Q I h => ?_⟩
  obtain ⟨ρ, τ, R0, E0, S, hT, hQ, hE⟩ := h
  refine (pa_cons ha hr hs).run p pins s σ H Q I ⟨ρ, τ, _, E0, S, hT, fun r ρ1 v H1 h1 S1 => ?_, hE⟩
  obtain ⟨h1, n⟩ := h1.of
  exact ⟨ρ1, (v, r) :: τ, _, E0, S1, h1, fun rs ρ2 vs H2 h2 hl S2 => hQ _ ρ2 (v :: vs) H2 h2 (by simp [hl]) S2, hE.1, fun z => n (hE.2 z)⟩
def tAOne (Te : TEp) : TAp := fun ρ R E => Te ρ (fun r ρ1 => R [r] ρ1) E
theorem a_one (ha : PEp c ek fl X e Te) (hs : starEach [e] X.env = (false, eval e X.env) :: starEach [] X.env := by rfl) : PAp c ek fl X [e] (tAOne Te) := by
  refine ⟨fun p pins s σ H Q I h => ?_⟩
  obtain ⟨ρ, τ, R0, E0, S, hT, hQ, hE⟩ := h
  refine (pa_cons ha pa_nil hs).run p pins s σ H Q I ⟨ρ, τ, _, E0, S, hT, fun r ρ1 v H1 h1 S1 => ?_, hE⟩
  exact hQ [r] ρ1 [v] H1 h1 rfl S1
def fzK (ρ : En) (rs : List R) (k : List D → En → Prop) : Prop := match fzL ρ rs with
  | some (ds, ρ') => k ds ρ'
  | none => False
theorem fzK.of {rs : List R} {k : List D → En → Prop} (h : fzK ρ rs k) : ∃ ds ρ', fzL ρ rs = some (ds, ρ') ∧ k ds ρ' := by
  unfold fzK at h
  split at h
  · rename_i ds ρ' e
    exact ⟨ds, ρ', e, h⟩
  · exact h.elim
def tTup (TA : TAp) : TEp := fun ρ R E => TA ρ (fun rs ρ1 => fzK ρ1 rs fun ds ρ2 => ds.length ≤ sizeLine ∧ R (.va (Fz (.tup ds))) ρ2) E
def tLst (TA : TAp) : TEp := fun ρ R E => TA ρ (fun rs ρ1 => fzK ρ1 rs fun ds ρ2 => ds.length ≤ sizeLine ∧ R (.va (Wl ds)) ρ2) E
theorem p_tup {k : Nat} (h : PAp c ek fl X es TA) : PEp c ek fl X (.Tuple es k pos) (tTup TA) := by
  refine ⟨fun pins s σ H Q I h' => ?_⟩
  obtain ⟨ρ, τ, R0, E0, S, hT, hQ, hE⟩ := h'
  refine (pe_tup h).run pins s σ H Q I ⟨ρ, τ, _, E0, S, hT, fun rs ρ1 vs H1 h1 hl S1 => ?_, hE⟩
  obtain ⟨ds, ρ2, e1, h2, h3⟩ := h1.of
  obtain ⟨O, S1⟩ := S1
  obtain ⟨O2, S2, r2, _⟩ := fzL_ok hl S1 e1
  exact ⟨by rw [r2.length]; exact h2, fun p hp => hQ _ _ _ _ h3 (S2.newTup hp r2)⟩
theorem p_lst (h : PAp c ek fl X es TA) : PEp c ek fl X (.List es pos) (tLst TA) := by
  refine ⟨fun pins s σ H Q I h' => ?_⟩
  obtain ⟨ρ, τ, R0, E0, S, hT, hQ, hE⟩ := h'
  refine (pe_lst h).run pins s σ H Q I ⟨ρ, τ, _, E0, S, hT, fun rs ρ1 vs H1 h1 hl S1 => ?_, hE⟩
  obtain ⟨ds, ρ2, e1, h2, h3⟩ := h1.of
  obtain ⟨O, S1⟩ := S1
  obtain ⟨O2, S2, r2, _⟩ := fzL_ok hl S1 e1
  exact ⟨by rw [r2.length]; exact h2, fun p hp => hQ _ _ _ _ h3 (S2.newLst hp r2)⟩

/-! ### subscripts -/
def ixD (x i : D) (Q : D → Prop) : Prop := match x, i with
  | .tup l, .int i => match atI l i with | some d => Q d | none => False
  | .lst l, .int i => match atI l i with | some d => Q d | none => False
  | .str z, .int i => z.length ≤ sizeLine ∧ match atI z.cps.toList i with | some k => Q (.str ⟨#[k]⟩) | none => False
  | _, _ => False
theorem atI_rps {K : PySem.W.Frag} {A : Av} {l : List D} {vs : List V} {i : Int} {d : D} (r : Rps K H A l vs) (h : atI l i = some d) : ∃ w, atI vs i = some w ∧ Rp K H A d w := by
  unfold atI at h ⊢
  rw [r.length]
  cases e : ixN l.length i with
  | none => rw [e] at h; cases h
  | some j =>
    rw [e] at h
    exact r.get h
theorem ix_all : IxR X (fun x y H Q => rIxL X.K x y H Q ∨ rIxT X.K x y H Q ∨ rIxS x y H Q) := ix_list.or (ix_tup.or ix_str)
def tIx (Ta Tb : TEp) : TEp := fun ρ R E => Ta ρ (fun ra ρ1 => nA ra <| Tb ρ1 (fun rb ρ2 => wD (vw ρ2 ra) fun x => wD (vw ρ2 rb) fun y => ixD x y fun d => R (.va (Fz d)) ρ2) E) E
theorem p_ix (ha : PEp c ek fl X a Ta) (hb : PEp c ek fl X b Tb) (hs : PlainIx b := by intro _ _; rfl) (hK : X.K = c.K := by rfl) : PEp c ek fl X (.Subscript a b pos) (tIx Ta Tb) := by
  refine ⟨fun pins s σ H Q I h => ?_⟩
  obtain ⟨ρ, τ, R0, E0, S, hT, hQ, hE⟩ := h
  refine (pe_ix ix_all ha hb hs).run pins s σ H Q I ⟨ρ, τ, _, E0, S, hT, fun ra ρ1 x H1 h1 S1 => let ⟨h1, n⟩ := h1.of; ⟨ρ1, _, _, E0, S1, h1, fun rb ρ2 y H2 h2 S2 => ?_, hE.1, fun z => n (hE.2 z)⟩, hE⟩
  obtain ⟨dx, ex, h2⟩ := h2.of
  obtain ⟨dy, ey, h2⟩ := h2.of
  obtain ⟨O, S2⟩ := S2
  obtain ⟨hx, hy⟩ := S2.vw2 ex ey
  have S3 := S2.pop.pop
  unfold ixD at h2
  split at h2
  · split at h2
    · rename_i e
      obtain ⟨p, vs, rfl, q, r⟩ := hx.tup
      obtain ⟨w, e2, r2⟩ := atI_rps r e
      exact .inr (.inl ⟨p, vs, _, w, rfl, hy.int, by rw [hK]; exact q, e2, hQ _ _ _ _ h2 ⟨O, S3.push r2⟩⟩)
    · exact h2.elim
  · split at h2
    · rename_i e
      obtain ⟨p, vs, rfl, q, r⟩ := hx.lst
      obtain ⟨w, e2, r2⟩ := atI_rps r e
      exact .inl ⟨p, vs, _, w, rfl, hy.int, SqL.of q, e2, hQ _ _ _ _ h2 ⟨O, S3.push r2⟩⟩
    · exact h2.elim
  · obtain ⟨hz, h2⟩ := h2
    split at h2
    · rename_i e
      exact .inr (.inr ⟨_, _, _, hx.str, hy.int, hz, e, hQ _ _ _ _ h2 (Sim.pushFz ⟨O, S3⟩ fun A => Rp.ofStr _)⟩)
    · exact h2.elim
  · exact h2.elim
end
end Pm

namespace Pm
open PySem PySem.Spec PyProof.Rows L2
section
variable {c : Cc} {O O' : Ow} {H H' : Hp} {ρ ρ' : En} {τ τ' : List (V × R)} {σ : St} {v : V} {ℓ ℓ' : Lab} {ct : Ct} {X : Cx} {ek : EK} {fl : Bool}
variable {a b e : Expr} {rest : List Expr} {Ta Tb Te : TEp} {TA' TB' TT' : TTp} {pos : Pos}

/-! ### new labels -/
def Ow.re (O : Ow) (ℓ ℓ' : Lab) : Ow := fun a => match O a with
  | some (k, m) => if k = ℓ then some (ℓ', m) else some (k, m)
  | none => none
theorem Ow.re_some {p : Addr} {m : Option Str} (h : O p = some (ℓ, m)) : O.re ℓ ℓ' p = some (ℓ', m) := by unfold Ow.re; rw [h]; simp
theorem Ow.re_ne {p : Addr} {k : Lab} {m : Option Str} (h : O p = some (k, m)) (n : k ≠ ℓ) : O.re ℓ ℓ' p = some (k, m) := by unfold Ow.re; rw [h]; simp [n]
theorem Ow.re_none {p : Addr} : O.re ℓ ℓ' p = none ↔ O p = none := by
  unfold Ow.re
  cases h : O p with
  | none => simp
  | some x =>
    obtain ⟨k, m⟩ := x
    simp only
    split <;> simp
theorem av_re {p : Addr} : c.av (O.re ℓ ℓ') p ↔ c.av O p := by
  unfold Cc.av
  rw [Ne, Ow.re_none]
theorem Ext.re : Ext c (fun l _ => l.1 = ℓ) O (O.re ℓ ℓ') H H where
  hF := fun _ _ _ h => h
  hT := fun _ _ h => h
  hL := fun a xs h n => ⟨h, fun z => n (av_re.mp z)⟩
  hO := fun a l o h n h2 => ⟨by obtain ⟨k, m⟩ := l; exact Ow.re_ne h n, h2⟩
theorem FOk.re {m : Option Str} {f : FC} (h : FOk c H O v (ℓ, m) f) : FOk c H (O.re ℓ ℓ') v (ℓ', m) f := by
  have ex : Ext c (fun l _ => l.1 = ℓ) O (O.re ℓ ℓ') H H := Ext.re
  cases f with
  | fz d => exact ex.rp h
  | ow l => obtain ⟨a, vs, rfl, o, ha, r⟩ := h; exact ⟨a, vs, rfl, Ow.re_some o, ha, ex.rps r⟩
  | dk kvs => obtain ⟨a, ws, rfl, o, ha, k, r⟩ := h; exact ⟨a, ws, rfl, Ow.re_some o, ha, k, ex.rps r⟩
  | tow p l => obtain ⟨a, vs, rfl, ⟨o, hpa⟩, ha, r⟩ := h; exact ⟨a, vs, rfl, ⟨Ow.re_some o, hpa⟩, ha, ex.rps r⟩
  | tdk p kvs => obtain ⟨a, ws, rfl, ⟨o, hpa⟩, ha, k, r⟩ := h; exact ⟨a, ws, rfl, ⟨Ow.re_some o, hpa⟩, ha, k, ex.rps r⟩
  | pin p => exact h
theorem COk.re (h : COk c H O v ℓ ct) : COk c H (O.re ℓ ℓ') v ℓ' ct := by
  cases ct with
  | no => trivial
  | «at» f => exact FOk.re h
  | ob nm fs =>
    obtain ⟨x, dx, C, vfs, rfl, o, k, hx, r⟩ := h
    exact ⟨x, dx, C, vfs, rfl, Ow.re_some o, k, hx, r.1, fun f fc q => let ⟨w, e1, e2⟩ := r.2 f fc q; ⟨w, e1, e2.re⟩⟩
  | ds fs =>
    obtain ⟨x, vfs, rfl, o, hx, r⟩ := h
    exact ⟨x, vfs, rfl, Ow.re_some o, hx, r.1, fun f fc z => let ⟨w, e1, e2⟩ := r.2 f fc z; ⟨w, e1, e2.re⟩⟩
theorem Sim0.ow_re (S : Sim0 c H O ρ τ σ) : ∀ a l, O.re ℓ ℓ' a = some l → ¬ c.Z a ∧ (c.H0 a = none ∨ c.I a) ∧ Mut (H a) := fun a l q => by
  cases h : O a with
  | none => rw [Ow.re_none.mpr h] at q; cases q
  | some x => exact S.ow a x h

theorem NoAl.tok : ∀ {τ : List (V × R)} {σ σ' : St}, NoAl τ → TOk c H O σ τ → TOk c H O σ' τ
  | [], _, _, _, _ => trivial
  | (v, .al i) :: τ, _, _, n, h => by obtain ⟨ct, e⟩ := n v _ List.mem_cons_self; cases e
  | (v, .alf i f) :: τ, _, _, n, h => by obtain ⟨ct, e⟩ := n v _ List.mem_cons_self; cases e
  | (v, .va ct) :: τ, _, _, n, h => ⟨h.1, NoAl.tok (fun w r m => n w r (List.mem_cons_of_mem _ m)) h.2⟩
theorem TOk.agree {σ' : St} {own : List Nat} (hown : ∀ i ∈ own, c.nb ≤ i) (g : ∀ i, i ∉ own → σ'[i]? = σ[i]?) : ∀ {τ : List (V × R)}, TOk c H O σ τ → TOk c H O σ' τ
  | [], _ => trivial
  | (v, .al i) :: τ, h => by
    refine ⟨⟨h.1.1, ?_⟩, TOk.agree hown g h.2⟩
    rw [g i (fun z => absurd (hown i z) (Nat.not_le.mpr h.1.1))]
    exact h.1.2
  | (v, .alf i f) :: τ, h => by
    obtain ⟨⟨x, C, dx, vfs, hb, e1, o, e2, e3⟩, h2⟩ := h
    refine ⟨⟨x, C, dx, vfs, hb, ?_, o, e2, e3⟩, TOk.agree hown g h2⟩
    rw [g i (fun z => absurd (hown i z) (Nat.not_le.mpr hb))]
    exact e1
  | (v, .va ct) :: τ, h => ⟨h.1, TOk.agree hown g h.2⟩
theorem NoAl.alf (n : NoAl τ) : NoAlf τ := fun v i f m => by obtain ⟨ct, e⟩ := n v _ m; cases e
/-- the top temporary goes to slot j -/
theorem Sim0.put {j : Nat} (S : Sim0 c H O ρ ((v, .va ct) :: τ) σ) (n : NoAl τ) (hj : j ∉ c.lock) : Sim c (ρ.set j ct) τ (σ.set j (some v)) H := by
  have S' := S.pop
  have ex : Ext c (fun l _ => l.1 = .t τ.length) O (O.re (.t τ.length) (.s j)) H H := Ext.re
  have hc : COk c H (O.re (.t τ.length) (.s j)) v (.s j) ct := COk.re S.tm.1
  refine ⟨O.re (.t τ.length) (.s j), by rw [List.length_set, List.length_set]; exact S.len, S.fr, S'.ow_re, S.zt, fun p hp => ⟨(S.io p hp).1, ?_⟩, fun i ct' q hn => ?_, n.tok (S'.tm.mono ex (fun k m a hk z => by cases z; omega) (fun w i f m _ _ _ _ _ z => by cases z))⟩
  · rw [List.getElem?_set_ne (fun z => hj (by rw [z]; exact (S.io p hp).1))]
    exact (S.io p hp).2
  · by_cases hi : i = j
    · subst hi
      by_cases hl : i < ρ.length
      · rw [List.getElem?_set_self hl] at q; cases q
        exact ⟨v, by rw [List.getElem?_set_self (by rw [S.len]; exact hl)], hc⟩
      · rw [List.getElem?_eq_none (by simpa using hl)] at q; cases q
    · rw [List.getElem?_set_ne (Ne.symm hi)] at q
      obtain ⟨w, e1, e2⟩ := S'.sl i ct' q hn
      exact ⟨w, by rw [List.getElem?_set_ne (Ne.symm hi)]; exact e1, e2.mono ex (fun m a z => by cases z)⟩
/-- what goes to a slot -/
def stC (ρ : En) (r : R) (k : Ct → En → Prop) : Prop := match r with
  | .va ct => k ct ρ
  | r => match fzC ρ r with
    | some (d, ρ') => k (Fz d) ρ'
    | none => False
theorem stC_ok {r : R} {k : Ct → En → Prop} (S : Sim c ρ ((v, r) :: τ) σ H) (h : stC ρ r k) : ∃ ct ρ', k ct ρ' ∧ Sim c ρ' ((v, .va ct) :: τ) σ H := by
  obtain ⟨O, S⟩ := S
  have go : (match fzC ρ r with | some (d, ρ') => k (Fz d) ρ' | none => False) → ∃ ct ρ', k ct ρ' ∧ Sim c ρ' ((v, .va ct) :: τ) σ H := fun h => by
    split at h
    · rename_i d ρ' e
      obtain ⟨O', S', r', _⟩ := fzC_ok S e
      exact ⟨_, _, h, O', S'.push r'⟩
    · exact h.elim
  cases r with
  | va ct => exact ⟨ct, ρ, h, O, S⟩
  | al i => exact go h
  | alf i f => exact go h

/-! ### statements -/
variable {st : Stmt} {sts : List Stmt} {T U : TSp}
def sNil : TSp := fun ρ E => E.nx ρ
def sSeq (T U : TSp) : TSp := fun ρ E => T ρ { E with nx := fun ρ' => U ρ' E }
theorem ss_nil : PSsp c ek X [] sNil := by
  refine ⟨fun pins s σ H D I h => ?_⟩
  obtain ⟨ρ, τ, E, S, n, hT, h1, h2, h3, h4, h5⟩ := h
  exact pss_nil.run pins s σ H D I (h1 _ _ _ hT S)
theorem ss_cons (h1 : PSp c ek X st T) (h2 : PSsp c ek X sts U) : PSsp c ek X (st :: sts) (sSeq T U) := by
  refine ⟨fun pins s σ H D I h => ?_⟩
  obtain ⟨ρ, τ, E, S, n, hT, q1, q2, q3, q4, q5⟩ := h
  exact (pss_cons h1 h2).run pins s σ H D I ⟨ρ, τ, _, S, n, hT, fun ρ' σ' H' e S' => ⟨ρ', τ, E, S', n, e, q1, q2, q3, q4, q5⟩, q2, q3, q4, q5⟩
theorem ss_one (h1 : PSp c ek X st T) : PSsp c ek X [st] T := ⟨fun pins s σ H D I h => (pss_one h1).run pins s σ H D I h⟩
def sPass : TSp := fun ρ E => E.nx ρ
def sBrk : TSp := fun ρ E => E.bk ρ
def sCnt : TSp := fun ρ E => E.ct ρ
theorem s_pass : PSp c ek X (.Pass pos) sPass := by
  refine ⟨fun pins s σ H D I h => ?_⟩
  obtain ⟨ρ, τ, E, S, n, hT, q1, q2, q3, q4, q5⟩ := h
  exact ps_pass.run pins s σ H D I (q1 _ _ _ hT S)
theorem s_doc {x : Str} {j : Nat} {pos' : Pos} : PSp c ek X (.Expr (.Constant (.str x) j pos) pos') sPass := by
  refine ⟨fun pins s σ H D I h => ?_⟩
  obtain ⟨ρ, τ, E, S, n, hT, q1, q2, q3, q4, q5⟩ := h
  exact ps_doc.run pins s σ H D I (q1 _ _ _ hT S)
theorem s_brk : PSp c ek X (.Break pos) sBrk := by
  refine ⟨fun pins s σ H D I h => ?_⟩
  obtain ⟨ρ, τ, E, S, n, hT, q1, q2, q3, q4, q5⟩ := h
  exact ps_break.run pins s σ H D I (q2 _ _ _ hT S)
theorem s_cnt : PSp c ek X (.Continue pos) sCnt := by
  refine ⟨fun pins s σ H D I h => ?_⟩
  obtain ⟨ρ, τ, E, S, n, hT, q1, q2, q3, q4, q5⟩ := h
  exact ps_continue.run pins s σ H D I (q3 _ _ _ hT S)
def sNever : TSp := fun _ _ => False
theorem s_never : PSp c ek X st sNever := by
  refine ⟨fun pins s σ H D I h => ?_⟩
  obtain ⟨ρ, τ, E, S, n, hT, _⟩ := h
  exact hT.elim
def sRet (Te : TEp) : TSp := fun ρ E => Te ρ E.rt E.ex
theorem s_ret (he : PEp c ek true X e Te) : PSp c ek X (.Return (some e) pos) (sRet Te) := by
  refine ⟨fun pins s σ H D I h => ?_⟩
  obtain ⟨ρ, τ, E, S, n, hT, q1, q2, q3, q4, q5⟩ := h
  exact (ps_ret he).run pins s σ H D I ⟨ρ, τ, _, _, S, hT, fun r ρ' v H' h1 S1 => q4 _ _ _ _ _ h1 S1, q5 σ, fun _ => n.alf⟩
def sRetN : TSp := fun ρ E => E.rt (.va (Fz .non)) ρ
theorem s_retN : PSp c ek X (.Return none pos) sRetN := by
  refine ⟨fun pins s σ H D I h => ?_⟩
  obtain ⟨ρ, τ, E, S, n, hT, q1, q2, q3, q4, q5⟩ := h
  exact ps_retN.run pins s σ H D I (q4 _ _ _ _ _ hT (S.pushFz fun A => Rp.ofNon))
def sExp (Te : TEp) : TSp := fun ρ E => Te ρ (fun _ ρ' => E.nx ρ') E.ex
theorem s_exp (he : PEp c ek true X e Te) (hs : swapsWith e none pos.line X.env = pure false := by rfl) : PSp c ek X (.Expr e pos) (sExp Te) := by
  refine ⟨fun pins s σ H D I h => ?_⟩
  obtain ⟨ρ, τ, E, S, n, hT, q1, q2, q3, q4, q5⟩ := h
  exact (ps_expr he hs).run pins s σ H D I ⟨ρ, τ, _, _, S, hT, fun r ρ' v H' h1 S1 => q1 _ _ _ h1 S1.pop, q5 σ, fun _ => n.alf⟩
def sIf (t : TTp) (T U : TSp) : TSp := fun ρ E => t ρ (fun b ρ' => if b = true then T ρ' E else U ρ' E) E.ex
theorem s_if {t : Expr} {A B : List Stmt} (ht : PTp c ek true X t TT') (ha : PSsp c ek X A T) (hb : PSsp c ek X B U) : PSp c ek X (.If t A B pos) (sIf TT' T U) := by
  refine ⟨fun pins s σ H D I h => ?_⟩
  obtain ⟨ρ, τ, E, S, n, hT, q1, q2, q3, q4, q5⟩ := h
  refine (ps_if ht ha hb).run pins s σ H D I ⟨ρ, τ, _, _, S, hT, fun k ρ' H' h1 S1 => ?_, q5 σ, fun _ => n.alf⟩
  cases k with
  | true => rw [if_pos rfl] at h1 ⊢; exact ⟨ρ', τ, E, S1, n, h1, q1, q2, q3, q4, q5⟩
  | false => rw [if_neg Bool.false_ne_true] at h1 ⊢; exact ⟨ρ', τ, E, S1, n, h1, q1, q2, q3, q4, q5⟩
/-- x = e -/
def sSet (j : Nat) (Te : TEp) : TSp := fun ρ E => Te ρ (fun r ρ' => stC ρ' r fun ct ρ'' => E.nx (ρ''.set j ct)) E.ex
theorem s_set (j : Nat) {x : Str} {pos' : Pos} (hN : X.N.Nodup) (he : PEp c ek true X e Te) (hj : j ∉ c.lock) (hi : X.N[j]? = some x := by rfl) (hx : Loc X.env.scope x := by first | exact Or.inl rfl | exact Or.inr rfl)
    (hs : swapsWith e (some (.Name x pos')) pos.line X.env = pure false := by rfl) (hf : X.fn x = true ∨ X.env.scope.names.lookup x = some .local := by first | exact .inl rfl | exact .inr rfl) : PSp c ek X (.Assign [.Name x pos'] e pos) (sSet j Te) := by
  refine ⟨fun pins s σ H D I h => ?_⟩
  obtain ⟨ρ, τ, E, S, n, hT, q1, q2, q3, q4, q5⟩ := h
  refine (ps_set hN hi hx he hs hf).run pins s σ H D I ⟨ρ, τ, _, _, S, hT, fun r ρ' v H' h1 S1 => ?_, q5 σ, fun _ => n.alf⟩
  obtain ⟨ct, ρ2, h2, O, S2⟩ := stC_ok S1 h1
  exact q1 _ _ _ h2 (S2.put n hj)
/-- x op= e, of ints -/
def sAug (f : Int → Int → Int) (j : Nat) (Te : TEp) : TSp := fun ρ E => match ρ[j]? with
  | some (.at (.fz (.int i))) => Te ρ (fun r ρ' => match vw ρ' r with | some (.int k) => E.nx (ρ'.set j (Fz (.int (f i k)))) | _ => False) E.ex
  | _ => False
theorem Sim0.setFz {j : Nat} {d : D} (S : Sim0 c H O ρ τ σ) (n : NoAl τ ∨ c.nb ≤ j) (hj : j ∉ c.lock) (r : Rp c.K H (c.av O) d v) : Sim0 c H O (ρ.set j (Fz d)) τ (σ.set j (some v)) := by
  refine ⟨by rw [List.length_set, List.length_set]; exact S.len, S.fr, S.ow, S.zt, fun p hp => ⟨(S.io p hp).1, ?_⟩, fun i ct' q hn => ?_, n.elim (fun n => n.tok S.tm) fun n => S.tm.agree (own := [j]) (fun i hi => by rw [List.mem_singleton] at hi; rw [hi]; exact n) (fun i hi => List.getElem?_set_ne (fun z => hi (by rw [z]; simp)))⟩
  · rw [List.getElem?_set_ne (fun z => hj (by rw [z]; exact (S.io p hp).1))]
    exact (S.io p hp).2
  · by_cases hi : i = j
    · subst hi
      by_cases hl : i < ρ.length
      · rw [List.getElem?_set_self hl] at q; cases q
        exact ⟨v, by rw [List.getElem?_set_self (by rw [S.len]; exact hl)], r⟩
      · rw [List.getElem?_eq_none (by simpa using hl)] at q; cases q
    · rw [List.getElem?_set_ne (Ne.symm hi)] at q
      obtain ⟨w, e1, e2⟩ := S.sl i ct' q hn
      exact ⟨w, by rw [List.getElem?_set_ne (Ne.symm hi)]; exact e1, e2⟩
theorem s_augF {f : Int → Int → Int} {op : Operator} (j : Nat) {x : Str} {pos' : Pos} (ho : PIp X op (ipI f)) (hN : X.N.Nodup) (he : PEp c ek true X e Te) (hj : j ∉ c.lock) (hi : X.N[j]? = some x := by rfl) (hx : Loc X.env.scope x := by first | exact Or.inl rfl | exact Or.inr rfl)
    (hf : X.fn x = true ∨ X.env.scope.names.lookup x = some .local := by first | exact .inl rfl | exact .inr rfl) : PSp c ek X (.AugAssign (.Name x pos') op e pos) (sAug f j Te) := by
  refine ⟨fun pins s σ H D I h => ?_⟩
  obtain ⟨ρ, τ, E, S, n, hT, q1, q2, q3, q4, q5⟩ := h
  unfold sAug at hT
  split at hT
  · rename_i i q
    obtain ⟨v, e1, e2⟩ := (show ∃ O, Sim0 c H O ρ τ σ from S).elim fun O S => S.sl j _ q (by intro z; cases z) |>.elim fun v h => (⟨v, h.1, (show Rp c.K H (c.av O) (.int i) v from h.2).int⟩ : ∃ v, σ[j]? = some (some v) ∧ v = .int i)
    subst e2
    refine (ps_aug hN hi hx he ho hf).run pins s σ H D I ⟨_, e1, ρ, τ, _, _, S, hT, fun r ρ' w H' h1 S1 => ?_, q5 σ, fun _ => n.alf⟩
    obtain ⟨O, S1⟩ := S1
    split at h1
    · rename_i k qk
      exact ⟨i, k, rfl, (S1.vw qk).int, q1 _ _ _ h1 ⟨O, S1.pop.setFz (.inl n) hj (Rp.ofInt _)⟩⟩
    · exact h1.elim
  · exact hT.elim
variable {TA : TAp}
/-- a, b = e1, e2 -/
def sPar (i j : Nat) (TA : TAp) : TSp := fun ρ E => TA ρ (fun rs ρ' => fzK ρ' rs fun ds ρ'' => match ds with
  | [d1, d2] => E.nx ((ρ''.set i (Fz d1)).set j (Fz d2))
  | _ => False) E.ex
theorem s_par {i j : Nat} {x y : Str} {px py pt : Pos} {kt k2 : Nat} {pt2 : Pos} (hc : X.calm = true) (hN : X.N.Nodup) (hij : i ≠ j) (ha : PAp c ek true X [a, b] TA) (li : i ∉ c.lock) (lj : j ∉ c.lock) (hi : X.N[i]? = some x := by rfl) (hj : X.N[j]? = some y := by rfl)
    (hx : X.env.scope.names.lookup x = some .local := by rfl) (hy : X.env.scope.names.lookup y = some .local := by rfl)
    (hw : swappedStores [.Tuple [.Name x px, .Name y py] kt pt] (.Tuple [a, b] k2 pt2) X.env = pure (some [x, y]) := by rfl)
    (hs : swapsWithSole [.Tuple [.Name x px, .Name y py] kt pt] (.Tuple [a, b] k2 pt2) pos.line X.env = pure false := by rfl) :
    PSp c ek X (.Assign [.Tuple [.Name x px, .Name y py] kt pt] (.Tuple [a, b] k2 pt2) pos) (sPar i j TA) := by
  refine ⟨fun pins s σ H D I h => ?_⟩
  obtain ⟨ρ, τ, E, S, n, hT, q1, q2, q3, q4, q5⟩ := h
  refine (ps_par hc hN hi hj hij hx hy ha hw hs).run pins s σ H D I ⟨ρ, τ, _, _, S, hT, fun rs ρ' vs H' h1 hl S1 => ?_, q5 σ, fun _ => n.alf⟩
  obtain ⟨ds, ρ2, e1, h2⟩ := h1.of
  obtain ⟨O, S1⟩ := S1
  obtain ⟨O2, S2, r2, _⟩ := fzL_ok hl S1 e1
  split at h2
  · rename_i d1 d2
    unfold Rps at r2
    obtain ⟨v, w, rfl, r1, r2⟩ := r2
    unfold Rps at r2
    obtain ⟨w, w', rfl, r2, r3⟩ := r2
    unfold Rps at r3
    subst r3
    refine ⟨v, w, rfl, q1 _ _ _ h2 ?_⟩
    have n2 : NoAl ((w, R.va (Fz d2)) :: τ) := fun u r m => by
      rcases List.mem_cons.mp m with e | m
      · cases e; exact ⟨_, rfl⟩
      · exact n u r m
    have S3 : Sim0 c H' O2 ρ2 ((v, .va (Fz d1)) :: (w, .va (Fz d2)) :: τ) σ := (S2.push (ct := Fz d2) r2).push (ct := Fz d1) r1
    obtain ⟨O4, S4⟩ := S3.put n2 li
    exact S4.put n lj
  · exact h2.elim
/-- targets -/
inductive Tg where
  | nm (i : Nat) | tp (l : List Tg)
mutual
def tgK : Tg → D → En → Option En
  | .nm i, d, ρ => some (ρ.set i (Fz d))
  | .tp l, .tup ds, ρ => tgKs l ds ρ
  | .tp _, _, _ => none
def tgKs : List Tg → List D → En → Option En
  | [], [], ρ => some ρ
  | t :: ts, d :: ds, ρ => (tgK t d ρ).bind fun ρ' => tgKs ts ds ρ'
  | _, _, _ => none
end
mutual
def Tg.sl : Tg → List Nat
  | .nm i => [i]
  | .tp l => Tg.sls l
def Tg.sls : List Tg → List Nat
  | [] => []
  | t :: ts => t.sl ++ Tg.sls ts
end
/-- the two agree but at l -/
def Agr (l : List Nat) (σ σ' : St) : Prop := σ'.length = σ.length ∧ ∀ i, i ∉ l → σ'[i]? = σ[i]?
def rdG (c : Cc) (t : Tg) : TG := fun v σ H Q => ∃ ρ τ d ρ' O, Sim0 c H O ρ τ σ ∧ (NoAl τ ∨ ∀ i ∈ t.sl, c.nb ≤ i) ∧ Rp c.K H (c.av O) d v ∧ tgK t d ρ = some ρ' ∧ ∀ σ', Agr t.sl σ σ' → Sim0 c H O ρ' τ σ' → Q σ' H
def rdGs (c : Cc) (t : List Tg) : TGs := fun vs σ H Q => ∃ ρ τ ds ρ' O, Sim0 c H O ρ τ σ ∧ (NoAl τ ∨ ∀ i ∈ Tg.sls t, c.nb ≤ i) ∧ Rps c.K H (c.av O) ds vs ∧ tgKs t ds ρ = some ρ' ∧ ∀ σ', Agr (Tg.sls t) σ σ' → Sim0 c H O ρ' τ σ' → Q σ' H
abbrev PGp (c : Cc) (X : Cx) (e : Expr) (t : Tg) : Prop := PG X e (rdG c t)
abbrev PGsp (c : Cc) (X : Cx) (e : List Expr) (t : List Tg) : Prop := PGs X e (rdGs c t)
variable {t : Tg} {ts : List Tg} {es : List Expr}
theorem g_nm (j : Nat) {x : Str} (hN : X.N.Nodup) (hj : j ∉ c.lock) (hi : X.N[j]? = some x := by rfl) (hx : Loc X.env.scope x := by first | exact Or.inl rfl | exact Or.inr rfl)
    (hf : X.fn x = true ∨ X.env.scope.names.lookup x = some .local := by first | exact .inl rfl | exact .inr rfl) : PGp c X (.Name x pos) (.nm j) := by
  refine ⟨fun pins s σ H v u Q I r h => ?_⟩
  obtain ⟨ρ, τ, d, ρ', O, S, n, rp, e, q⟩ := h
  unfold tgK at e
  cases e
  exact (pg_name hN hi hx hf).run pins s σ H v u Q I r (q _ ⟨by simp, fun i hi => List.getElem?_set_ne (fun z => hi (by unfold Tg.sl; rw [z]; simp))⟩ (S.setFz (n.elim .inl fun n => .inr (n j (by unfold Tg.sl; simp))) hj rp))
theorem g_nil : PGsp c X [] [] := by
  refine ⟨fun pins s σ H v u Q I r h => ?_⟩
  obtain ⟨ρ, τ, d, ρ', O, S, n, rp, e, q⟩ := h
  cases d with
  | nil =>
    unfold tgKs at e
    cases e
    unfold Rps at rp
    exact pgs_nil.run pins s σ H v u Q I r ⟨rp, q _ ⟨rfl, fun _ _ => rfl⟩ S⟩
  | cons _ _ => unfold tgKs at e; cases e
theorem g_cons (h1 : PGp c X e t) (h2 : PGsp c X es ts) (hs : (assignEach (e :: es) X.env).map (·.2) = assign e X.env :: (assignEach es X.env).map (·.2) := by rfl) : PGsp c X (e :: es) (t :: ts) := by
  refine ⟨fun pins s σ H v u Q I r h => ?_⟩
  obtain ⟨ρ, τ, d, ρ', O, S, n, rp, e, q⟩ := h
  cases d with
  | nil => unfold tgKs at e; cases e
  | cons d ds =>
    unfold tgKs at e
    cases e1 : tgK t d ρ with
    | none => rw [e1] at e; cases e
    | some ρ1 =>
      rw [e1] at e
      unfold Rps at rp
      obtain ⟨w, ws, rfl, r1, r2⟩ := rp
      exact (pgs_cons h1 h2 hs).run pins s σ H _ u Q I r ⟨w, ws, rfl, ρ, τ, d, ρ1, O, S, n.elim .inl (fun n => .inr fun i hi => n i (by unfold Tg.sls; exact List.mem_append_left _ hi)), r1, e1, fun σ' a' S' => ⟨ρ1, τ, ds, ρ', O, S', n.elim .inl (fun n => .inr fun i hi => n i (by unfold Tg.sls; exact List.mem_append_right _ hi)), r2, e, fun σ2 a2 => q σ2 ⟨a2.1.trans a'.1, fun i hi => by
        unfold Tg.sls at hi
        rw [List.mem_append, not_or] at hi
        exact (a2.2 i hi.2).trans (a'.2 i hi.1)⟩⟩⟩
theorem tgKs_len : ∀ {ts : List Tg} {ds : List D} {ρ ρ' : En}, tgKs ts ds ρ = some ρ' → ds.length = ts.length
  | [], [], _, _, _ => rfl
  | t :: ts, d :: ds, ρ, ρ', h => by
    unfold tgKs at h
    cases e1 : tgK t d ρ with
    | none => rw [e1] at h; cases h
    | some ρ1 =>
      rw [e1] at h
      simp [tgKs_len (show tgKs ts ds ρ1 = some ρ' from h)]
  | [], _ :: _, _, _, h => by unfold tgKs at h; cases h
  | _ :: _, [], _, _, h => by unfold tgKs at h; cases h
theorem g_tup {k : Nat} (hc : X.calm = true) (h : PGsp c X es ts) (hn : (assignEach es X.env).length = ts.length := by rfl) (hst : (assignEach es X.env).findIdx? (·.1) = none := by rfl) (hK : X.K = c.K := by rfl) : PGp c X (.Tuple es k pos) (.tp ts) := by
  refine ⟨fun pins s σ H v u Q I r hw => ?_⟩
  obtain ⟨ρ, τ, d, ρ', O, S, n, rp, e, q⟩ := hw
  cases d with
  | tup ds =>
    unfold tgK at e
    obtain ⟨a, vs, rfl, hq, rr⟩ := rp.top.tup
    refine (pg_tup hc h hn hst).run pins s σ H _ u Q I r ⟨a, vs, rfl, by rw [hK]; exact hq, by rw [rr.length]; exact tgKs_len e, ρ, τ, ds, ρ', O, S, n.elim .inl (fun n => .inr fun i hi => n i (by unfold Tg.sl; exact hi)), rr, e, fun σ2 a2 => q σ2 (by unfold Tg.sl; exact a2)⟩
  | _ => unfold tgK at e; cases e
/-- targets = e -/
def sAsg (t : Tg) (Te : TEp) : TSp := fun ρ E => Te ρ (fun r ρ' => match fzC ρ' r with
  | some (d, ρ1) => match tgK t d ρ1 with
    | some ρ2 => E.nx ρ2
    | none => False
  | none => False) E.ex
theorem s_asg {tg : Expr} (he : PEp c ek true X e Te) (hg : PGp c X tg t) (hs : swapsWithSole [tg] e pos.line X.env = pure false := by rfl) (hw : swappedStores [tg] e X.env = pure none := by rfl)
    (h1 : (assignEach [tg] X.env).map (·.2) = [assign tg X.env] := by rfl) : PSp c ek X (.Assign [tg] e pos) (sAsg t Te) := by
  refine ⟨fun pins s σ H D I h => ?_⟩
  obtain ⟨ρ, τ, E, S, n, hT, q1, q2, q3, q4, q5⟩ := h
  refine (ps_asg he hg hs hw h1).run pins s σ H D I ⟨ρ, τ, _, _, S, hT, fun r ρ' w H' h1 S1 => ?_, q5 σ, fun _ => n.alf⟩
  obtain ⟨O, S1⟩ := S1
  split at h1
  · rename_i d ρ1 e1
    obtain ⟨O2, S2, rp, _⟩ := fzC_ok S1 e1
    split at h1
    · rename_i ρ2 e2
      exact ⟨ρ1, τ, d, ρ2, O2, S2, .inl n, rp, e2, fun σ' _ S3 => q1 _ _ _ h1 ⟨_, S3⟩⟩
    · exact h1.elim
  · exact h1.elim

/-! ### loops -/
/-- an iterator gives the items ds, where the temporaries τi stand -/
def ItOk (c : Cc) (J : It) (ds : List D) (τi : List (V × R)) : Prop := ∀ (σ : St) (H : Hp) (ρ : En) (τ0 τ : List (V × R)) (i : Nat), Sim c ρ (τ0 ++ (τi ++ τ)) σ H →
  (∀ d, ds[i]? = some d → J.go i H ∧ ∀ x H', J.yld i H x H' → ∃ O, Sim0 c H' O ρ (τ0 ++ (τi ++ τ)) σ ∧ Rp c.K H' (c.av O) d x) ∧ (ds.length ≤ i → J.stop i H)
abbrev TIp' := En → (List D → En → Prop) → (Exn → En → Prop) → Prop
def rdI (c : Cc) (ek : EK) (b : Bool) (T : TIp') : TI := fun σ H R => ∃ ρ τ R0 E0, Sim c ρ τ σ H ∧ T ρ R0 E0 ∧ (∀ ds ρ' J H' τi, R0 ds ρ' → ItOk c J ds τi → NoAl τi → Sim c ρ' (τi ++ τ) σ H' → R J H') ∧ ek E0 σ ∧ (b = true → NoAlf τ)
abbrev PIp' (c : Cc) (ek : EK) (b : Bool) (X : Cx) (tg iter : Expr) (T : TIp') : Prop := PI X tg iter (rdI c ek b T)
def forK (g : Tg) (T : TSp) : List D → En → Ep → Prop
  | [], ρ, E => E.nx ρ
  | d :: ds, ρ, E => match tgK g d ρ with
    | some ρ1 => T ρ1 { E with nx := fun ρ' => forK g T ds ρ' E, ct := fun ρ' => forK g T ds ρ' E, bk := E.nx }
    | none => False
def sFor (TI : TIp') (g : Tg) (T : TSp) : TSp := fun ρ E => TI ρ (fun ds ρ1 => forK g T ds ρ1 E) E.ex
theorem NoAl.app {τ1 τ2 : List (V × R)} (h1 : NoAl τ1) (h2 : NoAl τ2) : NoAl (τ1 ++ τ2) := fun v r m => by
  rcases List.mem_append.mp m with m | m
  · exact h1 v r m
  · exact h2 v r m
theorem TOk.app : ∀ {τi τ : List (V × R)}, TOk c H O σ (τi ++ τ) → TOk c H O σ τ
  | [], _, h => h
  | (v, r) :: τi, τ, h => TOk.app (TOk.ndrop (τ := τi ++ τ) h)
theorem Sim.pops {τi : List (V × R)} (S : Sim c ρ (τi ++ τ) σ H) : Sim c ρ τ σ H := let ⟨O, S⟩ := S; ⟨O, S.len, S.fr, S.ow, S.zt, S.io, S.sl, S.tm.app⟩
/-- the top one stays, those under it go -/
theorem Sim.mid {r : R} {τi : List (V × R)} (S : Sim c ρ ((v, r) :: (τi ++ τ)) σ H) : Sim c ρ ((v, r) :: τ) σ H := by
  obtain ⟨O, S⟩ := S
  have S' : Sim0 c H O ρ τ σ := ⟨S.len, S.fr, S.ow, S.zt, S.io, S.sl, S.pop.tm.app⟩
  cases r with
  | al i => exact ⟨O, S'.len, S'.fr, S'.ow, S'.zt, S'.io, S'.sl, S.tm.1, S'.tm⟩
  | alf i f => exact ⟨O, S'.len, S'.fr, S'.ow, S'.zt, S'.io, S'.sl, S.tm.1, S'.tm⟩
  | va ct =>
    by_cases hz : τi = []
    · subst hz; exact ⟨O, S⟩
    have hl : 0 < τi.length := by cases τi with | nil => exact absurd rfl hz | cons _ _ => simp
    have ex : Ext c (fun l _ => l.1 = .t (τi ++ τ).length) O (O.re (.t (τi ++ τ).length) (.t τ.length)) H H := Ext.re
    have hc : COk c H (O.re (.t (τi ++ τ).length) (.t τ.length)) v (.t τ.length) ct := COk.re S.tm.1
    refine ⟨_, S'.len, S'.fr, S'.ow_re, S'.zt, S'.io, fun i ct' q hn => ?_, hc, S'.tm.mono ex (fun k m a hk z => ?_) (fun w i f m _ _ _ _ _ z => by cases z)⟩
    · obtain ⟨w, e1, e2⟩ := S'.sl i ct' q hn
      exact ⟨w, e1, e2.mono ex (fun m a z => by cases z)⟩
    · simp only [Lab.t.injEq, List.length_append] at z
      omega
theorem s_for {g : Tg} {tg iter : Expr} {body : List Stmt} {TI : TIp'} (hp : PassesOwn (model X.prog X.w) X.A X.env X.xe) (hc : X.calm = true) (hi : PIp' c ek true X tg iter TI) (hg : PGp c X tg g) (hb : PSsp c ek X body T)
    (hs : ∀ x, foldedSetIterable iter X.env x = pure x := by intro _; rfl) : PSp c ek X (.For tg iter body [] pos) (sFor TI g T) := by
  refine ⟨fun pins s σ H D I h => ?_⟩
  obtain ⟨ρ, τ, E, S, n, hT, q1, q2, q3, q4, q5⟩ := h
  refine (ps_for hp hc hi hg hb hs).run pins s σ H D I ⟨ρ, τ, _, _, S, hT, fun ds ρ' J H' τi h1 hJ ni S1 => ?_, q5 σ, fun _ => n.alf⟩
  refine ⟨fun i m σ H => m = ds.length - i ∧ i ≤ ds.length ∧ ∃ ρ, Sim c ρ (τi ++ τ) σ H ∧ forK g T (ds.drop i) ρ E, ⟨ds.length, by simp, Nat.zero_le _, ρ', S1, h1⟩, ?_⟩
  rintro i m σ H ⟨rfl, hi, ρ, S, hf⟩
  obtain ⟨j1, j2⟩ := hJ σ H ρ [] τ i S
  by_cases hlt : i < ds.length
  · have hd : ds[i]? = some ds[i] := List.getElem?_eq_getElem hlt
    obtain ⟨jg, jy⟩ := j1 _ hd
    rw [List.drop_eq_getElem_cons hlt] at hf
    unfold forK at hf
    split at hf
    · rename_i ρ1 e1
      refine .inr ⟨jg, fun σ' H' => ∃ ρ, Sim c ρ (τi ++ τ) σ' H' ∧ forK g T (ds.drop (i + 1)) ρ E, fun σ' H' hN => ⟨ds.length - (i + 1), by omega, rfl, hlt, hN⟩, fun x H' y => ?_⟩
      obtain ⟨O, S2, rp⟩ := jy x H' y
      refine ⟨ρ, τi ++ τ, ds[i], ρ1, O, S2, .inl (ni.app n), rp, e1, fun σ' _ S3 => ?_⟩
      refine ⟨ρ1, τi ++ τ, _, ⟨O, S3⟩, ni.app n, hf, fun ρ' σ' H' e S' => ⟨ρ', S', e⟩, fun ρ' σ' H' e S' => q1 _ _ _ e S'.pops, fun ρ' σ' H' e S' => ⟨ρ', S', e⟩, fun r ρ' v σ' H' e S' => q4 _ _ _ _ _ e S'.mid, q5⟩
    · exact hf.elim
  · have e : i = ds.length := by omega
    subst e
    rw [List.drop_length] at hf
    exact .inl ⟨j2 (Nat.le_refl _), q1 _ _ _ hf S.pops⟩
/-- what is walked: data, frozen -/
def iSeq (Te : TEp) : TIp' := fun ρ R E => Te ρ (fun r ρ' => match fzC ρ' r with
  | some (.lst l, ρ1) => R l ρ1
  | some (.tup l, ρ1) => R l ρ1
  | _ => False) E
def iLst (Te : TEp) : TIp' := fun ρ R E => Te ρ (fun r ρ' => match fzC ρ' r with | some (.lst l, ρ1) => R l ρ1 | _ => False) E
def iTup (Te : TEp) : TIp' := fun ρ R E => Te ρ (fun r ρ' => match fzC ρ' r with | some (.tup l, ρ1) => R l ρ1 | _ => False) E
theorem i_lst {tg : Expr} (he : PEp c ek fl X e Te) (hK : X.K = c.K := by rfl) : PIp' c ek fl X tg e (iLst Te) := by
  refine ⟨fun pins s σ H Q I h => ?_⟩
  obtain ⟨ρ, τ, R0, E0, S, hT, q, q5⟩ := h
  refine (pi_list he).run pins s σ H Q I ⟨ρ, τ, _, _, S, hT, fun r ρ' v H' h1 S1 => ?_, q5⟩
  obtain ⟨O, S1⟩ := S1
  split at h1
  · rename_i l ρ1 e1
    obtain ⟨O2, S2, rp, _⟩ := fzC_ok S1 e1
    obtain ⟨a, vs, rfl, ha, rr⟩ := rp.top.lst
    refine ⟨a, rfl, ⟨vs, SqL.of ha⟩, q l ρ1 _ _ [(.ref a, .va (Fz (.lst l)))] h1 ?_ (fun v r m => by rcases List.mem_cons.mp m with e | m; cases e; exact ⟨_, rfl⟩; cases m) ⟨O2, S2.push rp⟩⟩
    intro σ H ρ τ0 τ i S
    obtain ⟨O, S⟩ := S
    have rp : Rp c.K H (c.av O) (.lst l) (.ref a) := S.tm.app.1
    obtain ⟨a', vs, e, ha, rr⟩ := rp.top.lst
    cases e
    refine ⟨fun d hd => ?_, fun hl => ⟨vs, SqL.of ha, by rw [rr.length]; exact hl⟩⟩
    obtain ⟨w, hw, rw'⟩ := rr.get hd
    refine ⟨⟨vs, w, SqL.of ha, hw⟩, fun x H' y => ?_⟩
    obtain ⟨e1, y⟩ := y
    subst e1
    have := y vs (SqL.of ha)
    rw [hw] at this
    cases this
    exact ⟨O, S, rw'⟩
  · exact h1.elim
theorem i_tup {tg : Expr} (he : PEp c ek fl X e Te) (hK : X.K = c.K := by rfl) : PIp' c ek fl X tg e (iTup Te) := by
  refine ⟨fun pins s σ H Q I h => ?_⟩
  obtain ⟨ρ, τ, R0, E0, S, hT, q, q5⟩ := h
  refine (pi_tup he).run pins s σ H Q I ⟨ρ, τ, _, _, S, hT, fun r ρ' v H' h1 S1 => ?_, q5⟩
  obtain ⟨O, S1⟩ := S1
  split at h1
  · rename_i l ρ1 e1
    obtain ⟨O2, S2, rp, _⟩ := fzC_ok S1 e1
    obtain ⟨a, vs, rfl, ha, rr⟩ := rp.top.tup
    refine ⟨a, rfl, ⟨vs, by rw [hK]; exact ha⟩, q l ρ1 _ _ [(.ref a, .va (Fz (.tup l)))] h1 ?_ (fun v r m => by rcases List.mem_cons.mp m with e | m; cases e; exact ⟨_, rfl⟩; cases m) ⟨O2, S2.push rp⟩⟩
    intro σ H ρ τ0 τ i S
    obtain ⟨O, S⟩ := S
    have rp : Rp c.K H (c.av O) (.tup l) (.ref a) := S.tm.app.1
    obtain ⟨a', vs, e, ha, rr⟩ := rp.top.tup
    cases e
    rw [← hK] at ha
    refine ⟨fun d hd => ?_, fun hl => ⟨vs, ha, by rw [rr.length]; exact hl⟩⟩
    obtain ⟨w, hw, rw'⟩ := rr.get hd
    refine ⟨⟨vs, w, ha, hw⟩, fun x H' y => ?_⟩
    obtain ⟨e1, y⟩ := y
    subst e1
    have := y vs ha
    rw [hw] at this
    cases this
    exact ⟨O, S, rw'⟩
  · exact h1.elim
end
end Pm

namespace Pm
open PySem PySem.Spec PyProof.Rows L2
section
variable {c : Cc} {O O' : Ow} {H H' : Hp} {ρ ρ' : En} {τ τ' : List (V × R)} {σ : St} {v : V} {ℓ ℓ' : Lab} {ct : Ct} {X : Cx} {ek : EK} {fl : Bool}
variable {a b e : Expr} {rest : List Expr} {Ta Tb Te : TEp} {TA' TB' TT' : TTp} {pos : Pos} {T U : TSp} {TA TB : TAp} {es : List Expr}

/-! ### while -/
def sWhile (t : TTp) (T : TSp) : TSp := fun ρ E => ∃ W : Nat → En → Prop, (∃ m, W m ρ) ∧ ∀ m ρ, W m ρ →
  t ρ (fun b ρ' => if b = true then T ρ' { E with nx := fun ρ'' => ∃ m', m' < m ∧ W m' ρ'', ct := fun ρ'' => ∃ m', m' < m ∧ W m' ρ'', bk := E.nx } else E.nx ρ') E.ex
theorem s_while {t : Expr} {body : List Stmt} (hp : PassesOwn (model X.prog X.w) X.A X.env X.xe) (ht : PTp c ek true X t TT') (hb : PSsp c ek X body T) : PSp c ek X (.While t body [] pos) (sWhile TT' T) := by
  refine ⟨fun pins s σ H D I h => ?_⟩
  obtain ⟨ρ, τ, E, S, n, ⟨W, ⟨m0, w0⟩, hW⟩, q1, q2, q3, q4, q5⟩ := h
  refine (ps_while hp ht hb).run pins s σ H D I ⟨fun m σ H => ∃ ρ, Sim c ρ τ σ H ∧ W m ρ, ⟨m0, ρ, S, w0⟩, fun m σ H ⟨ρ, S, w⟩ => ?_⟩
  refine ⟨ρ, τ, _, _, S, hW m ρ w, fun b ρ' H' h1 S1 => ?_, q5 σ, fun _ => n.alf⟩
  cases b with
  | true =>
    rw [if_pos rfl] at h1 ⊢
    refine ⟨fun σ' H' => ∃ m', m' < m ∧ ∃ ρ, Sim c ρ τ σ' H' ∧ W m' ρ, fun σ' H' ⟨m', hm, z⟩ => ⟨m', hm, z⟩, ρ', τ, _, S1, n, h1, ?_, q1, ?_, q4, q5⟩
    · rintro ρ2 σ' H' ⟨m', hm, w⟩ S'; exact ⟨m', hm, ρ2, S', w⟩
    · rintro ρ2 σ' H' ⟨m', hm, w⟩ S'; exact ⟨m', hm, ρ2, S', w⟩
  | false => rw [if_neg Bool.false_ne_true] at h1 ⊢; exact q1 _ _ _ h1 S1

/-! ### promises -/
abbrev Fn := List Ct → (Ct → List Ct → Prop) → (Exn → List Ct → Prop) → Prop
def Cc.mk0 (K : PySem.W.Frag) (cls : Str → Option Addr) (Z : Addr → Prop) : Cc := ⟨K, cls, Z, fun _ => none, fun _ => False, [], [], 0⟩
structure RetOk (K : PySem.W.Frag) (cls : Str → Option Addr) (Z : Addr → Prop) (H : Hp) (O : Ow) (vs : List V) (v : V) (r : Ct) (cs' : List Ct) (H' : Hp) (O' : Ow) : Prop where
  fr : ∀ a o, H a = some o → O a = none → H' a = some o
  ow : ∀ a ℓ, O' a = some ℓ → ¬ Z a ∧ (H a = none ∨ O a ≠ none) ∧ Mut (H' a)
  ret : COk (Cc.mk0 K cls Z) H' O' v .r r
  args : ∀ i v ct, vs[i]? = some v → cs'[i]? = some ct → COk (Cc.mk0 K cls Z) H' O' v (.s i) ct
def spOf (K : PySem.W.Frag) (cls : Str → Option Addr) (n : Nat) (φ : Fn) : Sp := fun vs H Q E => ∃ Z cs O R0 E0, vs.length = n ∧ cs.length = n ∧ (∀ a, Z a → H a ≠ none) ∧ (∀ a ℓ, O a = some ℓ → ¬ Z a ∧ Mut (H a)) ∧
  (∀ i v ct, vs[i]? = some v → cs[i]? = some ct → COk (Cc.mk0 K cls Z) H O v (.s i) ct) ∧ φ cs R0 E0 ∧
  (∀ r cs' v H' O', R0 r cs' → RetOk K cls Z H O vs v r cs' H' O' → Q v H') ∧ (∀ x cs', ¬ E0 x cs')
/-- contents only lean on K, cls, Z -/
theorem FOk.ctx {c c' : Cc} (h1 : c.K = c'.K) (h2 : c.cls = c'.cls) (h3 : ∀ a, c.Z a ↔ c'.Z a) {m : Lab × Option Str} {f : FC} (h : FOk c H O v m f) : FOk c' H O v m f := by
  have ha : ∀ a, c.av O a ↔ c'.av O a := fun a => by unfold Cc.av; rw [h3]
  have rp : ∀ (d : D) (v : V), Rp c.K H (c.av O) d v → Rp c'.K H (c'.av O) d v := fun d v h => by
    rw [← h1]; exact Rp.mono (fun _ _ _ h => h) (fun _ _ h => h) (fun a xs h n => ⟨h, fun z => n ((ha a).mpr z)⟩) d v h
  have rps : ∀ (d : List D) (v : List V), Rps c.K H (c.av O) d v → Rps c'.K H (c'.av O) d v := fun d v h => by
    rw [← h1]; exact Rps.mono (fun _ _ _ h => h) (fun _ _ h => h) (fun a xs h n => ⟨h, fun z => n ((ha a).mpr z)⟩) d v h
  cases f with
  | fz d => exact rp d v h
  | ow l => obtain ⟨a, vs, e, o, q, r⟩ := h; exact ⟨a, vs, e, o, q, rps _ _ r⟩
  | dk kvs => obtain ⟨a, ws, e, o, q, k, r⟩ := h; exact ⟨a, ws, e, o, q, k, rps _ _ r⟩
  | tow p l => obtain ⟨a, vs, e, ⟨o, hpa⟩, q, r⟩ := h; exact ⟨a, vs, e, ⟨o, hpa⟩, q, rps _ _ r⟩
  | tdk p kvs => obtain ⟨a, ws, e, ⟨o, hpa⟩, q, k, r⟩ := h; exact ⟨a, ws, e, ⟨o, hpa⟩, q, k, rps _ _ r⟩
  | pin p => exact h
theorem COk.ctx {c c' : Cc} (h1 : c.K = c'.K) (h2 : c.cls = c'.cls) (h3 : ∀ a, c.Z a ↔ c'.Z a) (h : COk c H O v ℓ ct) : COk c' H O v ℓ ct := by
  cases ct with
  | no => trivial
  | «at» f => exact FOk.ctx h1 h2 h3 h
  | ob nm fs =>
    obtain ⟨x, dx, C, vfs, e, o, k, q, r⟩ := h
    exact ⟨x, dx, C, vfs, e, o, by rw [← h2]; exact k, q, r.1, fun f fc z => let ⟨w, e1, e2⟩ := r.2 f fc z; ⟨w, e1, FOk.ctx h1 h2 h3 e2⟩⟩
  | ds fs =>
    obtain ⟨x, vfs, e, o, hx, r⟩ := h
    exact ⟨x, vfs, e, o, hx, r.1, fun f fc z => let ⟨w, e1, e2⟩ := r.2 f fc z; ⟨w, e1, FOk.ctx h1 h2 h3 e2⟩⟩

/-! ### a def by its body -/
def isOw : Ct → Bool
  | .no => false
  | .at (.fz _) => false
  | .at (.pin _) => false
  | _ => true
def outs (cs ρ : List Ct) : List Ct := List.zipWith (fun old new => if isOw old then new else .no) cs ρ
def retK (cs : List Ct) (r : R) (ρ : En) (R0 : Ct → List Ct → Prop) : Prop := match r with
  | .va ct => R0 ct (outs cs ρ)
  | .al i => if i < cs.length then (match fzC ρ (.al i) with | some (d, ρ') => R0 (Fz d) (outs cs ρ') | none => False) else (match ρ[i]? with | some ct => R0 ct (outs cs ρ) | none => False)
  | .alf i f => match fzC ρ (.alf i f) with | some (d, ρ') => R0 (Fz d) (outs cs ρ') | none => False
def fnOf (m : Nat) (lock : List Nat) (T : TSp) : Fn := fun cs R0 E0 => (∀ i ct, cs[i]? = some ct → isOw ct = true → i ∈ lock) ∧
  T (cs ++ List.replicate m .no) ⟨fun ρ => R0 (Fz .non) (outs cs ρ), fun r ρ => retK cs r ρ R0, fun _ => False, fun _ => False, fun x ρ => E0 x (outs cs ρ)⟩
def ek0 : EK := fun E0 _ => ∀ x ρ, ¬ E0 x ρ

section
variable {P : Program} {w : World} {K : PySem.W.Frag} {cls : Str → Option Addr} {mg : Str → Option Value} {base : Heap}
theorem outs_get {cs ρ : List Ct} {i : Nat} {ct : Ct} (h : (outs cs ρ)[i]? = some ct) : ct = .no ∨ ∃ old, cs[i]? = some old ∧ isOw old = true ∧ ρ[i]? = some ct := by
  unfold outs at h
  rw [List.getElem?_zipWith] at h
  cases h1 : cs[i]? with
  | none => rw [h1] at h; cases h
  | some old =>
    rw [h1] at h
    cases h2 : ρ[i]? with
    | none => rw [h2] at h; cases h
    | some new =>
      rw [h2] at h
      simp only [Option.some.injEq] at h
      by_cases ho : isOw old = true
      · rw [if_pos ho] at h
        exact .inr ⟨old, rfl, ho, by rw [h]⟩
      · rw [if_neg ho] at h
        exact .inl h.symm
def ioOf : Nat → List V → List Ct → List (Nat × Addr)
  | i, .ref a :: vs, ct :: cs => if isOw ct then (i, a) :: ioOf (i + 1) vs cs else ioOf (i + 1) vs cs
  | i, _ :: vs, _ :: cs => ioOf (i + 1) vs cs
  | _, _, _ => []
theorem ioOf_mem : ∀ {vs : List V} {cs : List Ct} {k : Nat} {p : Nat × Addr}, p ∈ ioOf k vs cs → ∃ j, p.1 = k + j ∧ vs[j]? = some (.ref p.2) ∧ ∃ ct, cs[j]? = some ct ∧ isOw ct = true
  | [], _, _, _, h => by unfold ioOf at h; cases h
  | v :: vs, [], _, _, h => by cases v <;> (unfold ioOf at h; cases h)
  | v :: vs, ct :: cs, k, p, h => by
    have nx : p ∈ ioOf (k + 1) vs cs → ∃ j, p.1 = k + j ∧ (v :: vs)[j]? = some (.ref p.2) ∧ ∃ ct', (ct :: cs)[j]? = some ct' ∧ isOw ct' = true := fun h => by
      obtain ⟨j, e1, e2, e3⟩ := ioOf_mem h
      exact ⟨j + 1, by omega, by simpa using e2, by simpa using e3⟩
    cases v with
    | ref a =>
      unfold ioOf at h
      split at h
      · rename_i ho
        rcases List.mem_cons.mp h with e | h
        · subst e; exact ⟨0, rfl, rfl, ct, rfl, ho⟩
        · exact nx h
      · exact nx h
    | _ => unfold ioOf at h; exact nx h
theorem ioOf_has : ∀ {vs : List V} {cs : List Ct} {k j : Nat} {a : Addr} {ct : Ct}, vs[j]? = some (.ref a) → cs[j]? = some ct → isOw ct = true → (k + j, a) ∈ ioOf k vs cs
  | [], _, _, _, _, _, h, _, _ => by simp at h
  | _ :: _, [], _, _, _, _, _, h, _ => by simp at h
  | v :: vs, ct :: cs, k, 0, a, ct', h1, h2, h3 => by
    simp at h1 h2; subst h1 h2
    unfold ioOf
    rw [if_pos h3]
    exact List.mem_cons_self
  | v :: vs, ct :: cs, k, j + 1, a, ct', h1, h2, h3 => by
    have ih := ioOf_has (k := k + 1) (j := j) (vs := vs) (cs := cs) (by simpa using h1) (by simpa using h2) h3
    have e : k + 1 + j = k + (j + 1) := by omega
    rw [e] at ih
    cases v with
    | ref b =>
      unfold ioOf
      split
      · exact List.mem_cons_of_mem _ ih
      · exact ih
    | _ => unfold ioOf; exact ih
/-- the context of a def's body -/
def ccOf (K : PySem.W.Frag) (cls : Str → Option Addr) (Z : Addr → Prop) (H : Hp) (O : Ow) (vs : List V) (cs : List Ct) (lock : List Nat) (nb : Nat) : Cc := ⟨K, cls, Z, H, fun a => O a ≠ none, ioOf 0 vs cs, lock, nb⟩
theorem COk.isRef (h : COk c H O v ℓ ct) (o : isOw ct = true) : ∃ a, v = .ref a := by
  cases ct with
  | no => cases o
  | ob nm fs => obtain ⟨x, dx, C, vfs, e, _⟩ := h; exact ⟨x, e⟩
  | ds fs => obtain ⟨x, vfs, e, _⟩ := h; exact ⟨x, e⟩
  | «at» f =>
    cases f with
    | fz d => cases o
    | ow l => obtain ⟨a, vs, e, _⟩ := h; exact ⟨a, e⟩
    | dk kvs => obtain ⟨a, vs, e, _⟩ := h; exact ⟨a, e⟩
    | tow p kvs => obtain ⟨a, vs, e, _⟩ := h; exact ⟨a, e⟩
    | tdk p kvs => obtain ⟨a, vs, e, _⟩ := h; exact ⟨a, e⟩
    | pin p => cases o
theorem COk.non : COk c H O .non ℓ (Fz .non) := by
  show Rp c.K H (c.av O) .non .non
  exact Rp.ofNon
theorem body_sp {qual : Str} {sc : Scope} {body : List Stmt} {f : Addr} {N ps : List Str} {k m nb : Nat} {lock : List Nat} {T : TSp} {φ : Fn} (hm : N.length = ps.length + m)
    (hφ : ∀ cs R0 E0, φ cs R0 E0 → fnOf m lock T cs R0 E0)
    (hbody : ∀ (c : Cc) (cdv : Value) (A : Around) (outer : List Env) (s : Shared) (H : Hp) (E : XK), c.K = K → c.cls = cls → c.lock = lock → c.nb = nb → Room k (A.deeper (envOfC qual sc s.heap.objs.size f cdv)) →
      PSsp c ek0 (cxOf CX0 P w K mg base N qual sc f cdv A outer s H E).nox body T) (cdv : Value) (A : Around) (outer : List Env) (s : Shared) (H : Hp) (vs : List V) (Q : VK) (E : XK) (hr : Room k (A.deeper (envOfC qual sc s.heap.objs.size f cdv))) (h : spOf K cls ps.length φ vs H Q E) :
    ∃ t, PSs (cxOf CX0 P w K mg base N qual sc f cdv A outer s H E).nox body t ∧ t { nx := fun _ H' => Q .non H', rt := Q } (L2.start N vs) H := by
    obtain ⟨Z, cs, O, R0, E0, hl, hlc, hZ, hO, hA, hf, hQ, hE⟩ := h
    obtain ⟨hlk, hT⟩ := hφ _ _ _ hf
    refine ⟨_, hbody (ccOf K cls Z H O vs cs lock nb) cdv A outer s H E rfl rfl rfl rfl hr, ?_⟩
    have st0 : ∀ i v, vs[i]? = some v → (L2.start N vs)[i]? = some (some v) := fun i v h => by
      unfold L2.start
      have hi : i < vs.length := (List.getElem?_eq_some_iff.mp h).1
      rw [List.getElem?_append_left (by simpa using hi), List.getElem?_map, h]; rfl
    have cx : ∀ {H' : Hp} {O' : Ow} {v : V} {ℓ : Lab} {ct : Ct}, COk (ccOf K cls Z H O vs cs lock nb) H' O' v ℓ ct → COk (Cc.mk0 K cls Z) H' O' v ℓ ct := fun h => COk.ctx rfl rfl (fun _ => Iff.rfl) h
    have S0 : Sim (ccOf K cls Z H O vs cs lock nb) (cs ++ List.replicate m .no) [] (L2.start N vs) H := by
      refine ⟨O, ?_, fun a o h _ => h, fun a ℓ q => ⟨(hO a ℓ q).1, .inr (by show O a ≠ none; rw [q]; simp), (hO a ℓ q).2⟩, hZ, fun p hp => ?_, fun i ct q n => ?_, trivial⟩
      · unfold L2.start
        simp only [List.length_append, List.length_map, List.length_replicate]
        omega
      · obtain ⟨j, e1, e2, ct, e3, e4⟩ := ioOf_mem hp
        have e5 : p.1 = j := by omega
        rw [e5]
        exact ⟨hlk j ct e3 e4, st0 _ _ e2⟩
      · by_cases hi : i < cs.length
        · rw [List.getElem?_append_left hi] at q
          obtain ⟨v, hv⟩ : ∃ v, vs[i]? = some v := ⟨vs[i], List.getElem?_eq_getElem (by omega)⟩
          exact ⟨v, st0 i v hv, COk.ctx rfl rfl (fun _ => Iff.rfl) (hA i v ct hv q)⟩
        · rw [List.getElem?_append_right (by omega), List.getElem?_replicate] at q
          split at q
          · cases q; exact absurd rfl n
          · cases q
    -- what a def's end hands on
    have fin : ∀ {H' : Hp} {O' : Ow} {σ' : St} {ρ' : En} {v : V} {r : Ct}, Sim0 (ccOf K cls Z H O vs cs lock nb) H' O' ρ' [] σ' → COk (ccOf K cls Z H O vs cs lock nb) H' O' v .r r → (∀ a ℓ, O' a = some ℓ → True) → R0 r (outs cs ρ') → Q v H' := fun {H' O' σ' ρ' v r} S' hr' _ h0 => by
      refine hQ _ _ _ H' O' h0 ⟨fun a o h1 h2 => S'.fr a o h1 (fun z => z h2), fun a ℓ q => ?_, cx hr', fun i u ct h1 h2 => ?_⟩
      · obtain ⟨z1, z2, z3⟩ := S'.ow a ℓ q
        exact ⟨z1, z2, z3⟩
      · rcases outs_get h2 with e | ⟨old, e1, e2, e3⟩
        · subst e; trivial
        · obtain ⟨a, ea⟩ := (hA i u old h1 e1).isRef e2
          subst ea
          have hio := (S'.io (i, a) (by have := ioOf_has (k := 0) h1 e1 e2; rw [Nat.zero_add] at this; exact this)).2
          by_cases hn : ct = .no
          · subst hn; trivial
          obtain ⟨w', e4, e5⟩ := S'.sl i ct e3 hn
          rw [hio] at e4; cases e4
          exact cx e5
    refine ⟨_, [], _, S0, fun v r m => (by cases m), hT, fun ρ' σ' H' h1 ⟨O', S'⟩ => fin S' (r := Fz .non) COk.non (fun _ _ _ => trivial) h1, fun _ _ _ z => z.elim, fun _ _ _ z => z.elim, fun r ρ' v σ' H' h1 ⟨O', S'⟩ => ?_, fun σ' x ρ z => hE _ _ z⟩
    have fz : (match fzC ρ' r with | some (d, ρ'') => R0 (Fz d) (outs cs ρ'') | none => False) → Q v H' := fun h1 => by
      split at h1
      · rename_i d ρ2 e1
        obtain ⟨O2, S2, rp, _⟩ := fzC_ok S' e1
        exact fin S2 (r := Fz d) rp (fun _ _ _ => trivial) h1
      · exact h1.elim
    cases r with
    | alf i g => exact fz h1
    | va ct =>
      have S2 := S'.pop
      have hc : COk _ H' (O'.re (.t 0) .r) v .r ct := COk.re S'.tm.1
      have ex : Ext (ccOf K cls Z H O vs cs lock nb) (fun l _ => l.1 = .t 0) O' (O'.re (.t 0) .r) H' H' := Ext.re
      refine fin (O' := O'.re (.t 0) .r) (σ' := σ') ⟨S2.len, S2.fr, S2.ow_re, S2.zt, S2.io, fun i ct' q hn => ?_, trivial⟩ hc (fun _ _ _ => trivial) h1
      obtain ⟨u, e1, e2⟩ := S2.sl i ct' q hn
      exact ⟨u, e1, e2.mono ex (fun m a z => by cases z)⟩
    | al i =>
      have h1 : (if i < cs.length then (match fzC ρ' (.al i) with | some (d, ρ') => R0 (Fz d) (outs cs ρ') | none => False) else (match ρ'[i]? with | some ct => R0 ct (outs cs ρ') | none => False)) := h1
      by_cases hi : i < cs.length
      · rw [if_pos hi] at h1; exact fz h1
      · rw [if_neg hi] at h1
        split at h1
        · rename_i ct e1
          have hv := S'.tm.1.2
          have S2 := S'.pop
          by_cases hn : ct = .no
          · subst hn
            exact fin S2 (r := .no) trivial (fun _ _ _ => trivial) h1
          obtain ⟨u, e4, e5⟩ := S2.sl i ct e1 hn
          rw [hv] at e4; cases e4
          have ex : Ext (ccOf K cls Z H O vs cs lock nb) (fun l _ => l.1 = .s i) O' (O'.re (.s i) .r) H' H' := Ext.re
          have hc : COk _ H' (O'.re (.s i) .r) v .r ct := COk.re e5
          -- the slot itself is forgotten
          have ho : outs cs ρ' = outs cs (ρ'.set i .no) := by
            apply List.ext_getElem?
            intro j
            unfold outs
            rw [List.getElem?_zipWith, List.getElem?_zipWith]
            by_cases hj : j = i
            · subst hj
              rw [List.getElem?_eq_none (show cs.length ≤ j by omega)]
            · rw [List.getElem?_set_ne (Ne.symm hj)]
          rw [ho] at h1
          refine fin (O' := O'.re (.s i) .r) (σ' := σ') ⟨by rw [List.length_set]; exact S2.len, S2.fr, S2.ow_re, S2.zt, S2.io, fun j ct' q hn' => ?_, trivial⟩ hc (fun _ _ _ => trivial) h1
          by_cases hj : j = i
          · subst hj
            by_cases hl : j < ρ'.length
            · rw [List.getElem?_set_self hl] at q; cases q; exact absurd rfl hn'
            · rw [List.getElem?_eq_none (by simpa using hl)] at q; cases q
          · rw [List.getElem?_set_ne (Ne.symm hj)] at q
            obtain ⟨u', e1', e2'⟩ := S2.sl j ct' q hn'
            exact ⟨u', e1', e2'.mono ex (fun m a z => by cases z; exact hj rfl)⟩
        · exact h1.elim
/-- a def without defaults -/
theorem fn_ok {x qual : Str} {st : Stmt} {f : Addr} {fd : FuncData} {N ps : List Str} {k m nb : Nat} {lock : List Nat} {T : TSp} {φ : Fn} (F : Fun K x qual st f fd) (S : FnScope N ps (defScope st)) (hm : N.length = ps.length + m)
    (hφ : ∀ cs R0 E0, φ cs R0 E0 → fnOf m lock T cs R0 E0)
    (hbody : ∀ (c : Cc) (cdv : Value) (A : Around) (outer : List Env) (s : Shared) (H : Hp) (E : XK), c.K = K → c.cls = cls → c.lock = lock → c.nb = nb → Room k (A.deeper (envOfC qual (defScope st) s.heap.objs.size f cdv)) →
      PSsp c ek0 (cxOf CX0 P w K mg base N qual (defScope st) f cdv A outer s H E).nox (defBody st) T) : FnOk P w K mg base CX0 (k + 1) f fd ps (spOf K cls ps.length φ) :=
  F.ok S (fun vs H Q E h => let ⟨_, _, _, _, _, h1, _⟩ := h; h1) (body_sp hm hφ hbody)
end
end
end Pm

namespace Pm
open PySem PySem.Spec PyProof.Rows L2
section
variable {c : Cc} {O O' : Ow} {H H' : Hp} {ρ ρ' : En} {τ τ' : List (V × R)} {σ : St} {v : V} {ℓ ℓ' : Lab} {ct : Ct} {X : Cx} {ek : EK} {fl : Bool}
variable {a b e : Expr} {rest : List Expr} {Ta Tb Te : TEp} {TA' TB' TT' : TTp} {pos : Pos} {T U : TSp} {TA TB : TAp} {es : List Expr}

/-! ### a call of a def -/
abbrev Xs := List (D ⊕ Nat)
def fzM : List Bool → List R → En → Option (Xs × En)
  | [], [], ρ => some ([], ρ)
  | m :: ms, r :: rs, ρ => match fzM ms rs ρ with
    | none => none
    | some (xs, ρ1) => match m, r with
      | true, .al i => some (.inr i :: xs, ρ1)
      | true, _ => none
      | false, r => match fzC ρ1 r with
        | some (d, ρ2) => some (.inl d :: xs, ρ2)
        | none => none
  | _, _, _ => none
def brs : Xs → List Nat
  | [] => []
  | .inl _ :: xs => brs xs
  | .inr i :: xs => i :: brs xs
def cts (ρ : En) : Xs → List Ct
  | [] => []
  | .inl d :: xs => Fz d :: cts ρ xs
  | .inr i :: xs => ρ.getD i .no :: cts ρ xs
def wb : Xs → List Ct → En → En
  | .inl _ :: xs, _ :: cs, ρ => wb xs cs ρ
  | .inr i :: xs, ct :: cs, ρ => wb xs cs (ρ.set i ct)
  | .inr i :: xs, [], ρ => wb xs [] (ρ.set i .no)
  | .inl _ :: xs, [], ρ => wb xs [] ρ
  | [], _, ρ => ρ
def callK (φ : Fn) (ms : List Bool) (dcs : List D) (rs : List R) (ρ : En) (R0 : R → En → Prop) (E : Exn → En → Prop) : Prop := match fzM ms rs ρ with
  | some (xs, ρ1) => (brs xs).Nodup ∧ (∀ i ∈ brs xs, isOw (ρ1.getD i .no) = true) ∧ φ (cts ρ1 xs ++ dcs.map Fz) (fun r cs' => R0 (.va r) (wb xs cs' ρ1)) (fun x cs' => E x (wb xs cs' ρ1))
  | none => False
def AOk (c : Cc) (H : Hp) (O : Ow) (σ : St) : Xs → List V → Prop
  | [], vs => vs = []
  | .inl d :: xs, vs => ∃ v r, vs = v :: r ∧ Rp c.K H (c.av O) d v ∧ AOk c H O σ xs r
  | .inr i :: xs, vs => ∃ v r, vs = v :: r ∧ σ[i]? = some (some v) ∧ AOk c H O σ xs r
theorem AOk.mono (h : ∀ a, c.av O' a → c.av O a) : ∀ {xs : Xs} {vs : List V}, AOk c H O σ xs vs → AOk c H O' σ xs vs
  | [], _, q => q
  | .inl d :: xs, _, q => by
    obtain ⟨v, r, e, h1, h2⟩ := q
    exact ⟨v, r, e, Rp.mono (fun _ _ _ h => h) (fun _ _ h => h) (fun a xs h' n => ⟨h', fun z => n (h a z)⟩) _ _ h1, AOk.mono h h2⟩
  | .inr i :: xs, _, q => by
    obtain ⟨v, r, e, h1, h2⟩ := q
    exact ⟨v, r, e, h1, AOk.mono h h2⟩
theorem fzM_ok : ∀ {ms : List Bool} {rs : List R} {vs : List V} {τ : List (V × R)} {ρ ρ' : En} {O : Ow} {xs : Xs}, vs.length = rs.length → Sim0 c H O ρ (tmps τ vs rs) σ → fzM ms rs ρ = some (xs, ρ') →
    ∃ O', Sim0 c H O' ρ' τ σ ∧ AOk c H O' σ xs vs ∧ ∀ a, c.av O' a → c.av O a
  | [], [], [], τ, ρ, ρ', O, xs, _, S, e => by unfold fzM at e; cases e; exact ⟨O, S, rfl, fun _ h => h⟩
  | _ :: _, [], _, _, _, _, _, _, _, _, e => by unfold fzM at e; cases e
  | [], _ :: _, _, _, _, _, _, _, _, _, e => by unfold fzM at e; cases e
  | [], [], _ :: _, _, _, _, _, _, hl, _, _ => by cases hl
  | _ :: _, _ :: _, [], _, _, _, _, _, hl, _, _ => by cases hl
  | m :: ms, r :: rs, v :: vs, τ, ρ, ρ', O, xs, hl, S, e => by
    unfold fzM at e
    cases q1 : fzM ms rs ρ with
    | none => rw [q1] at e; cases e
    | some p =>
      obtain ⟨xs1, ρ1⟩ := p
      rw [q1] at e
      obtain ⟨O1, S1, A1, m1⟩ := fzM_ok (τ := (v, r) :: τ) (by simpa using hl) S q1
      cases m with
      | true =>
        cases r with
        | al i => cases e; exact ⟨O1, S1.pop, ⟨v, vs, rfl, S1.tm.1.2, A1⟩, m1⟩
        | alf i f => cases e
        | va ct => cases e
      | false =>
        simp only at e
        cases q2 : fzC ρ1 r with
        | none => rw [q2] at e; cases e
        | some p =>
          obtain ⟨d, ρ2⟩ := p
          rw [q2] at e
          cases e
          obtain ⟨O2, S2, R2, m2⟩ := fzC_ok S1 q2
          exact ⟨O2, S2, ⟨v, vs, rfl, R2, A1.mono m2⟩, fun a h => m1 a (m2 a h)⟩
/-- contents under other labels and another context -/
theorem COk.map {c c' : Cc} {O O' : Ow} (h1 : c.K = c'.K) (h2 : c.cls = c'.cls) (hl : ∀ a m, O a = some (ℓ, m) → O' a = some (ℓ', m)) (ha : ∀ a, c'.av O' a → c.av O a) (h : COk c H O v ℓ ct) : COk c' H O' v ℓ' ct := by
  have rp : ∀ (d : D) (v : V), Rp c.K H (c.av O) d v → Rp c'.K H (c'.av O') d v := fun d v h => by
    rw [← h1]; exact Rp.mono (fun _ _ _ h => h) (fun _ _ h => h) (fun a xs h n => ⟨h, fun z => n (ha a z)⟩) d v h
  have rps : ∀ (d : List D) (v : List V), Rps c.K H (c.av O) d v → Rps c'.K H (c'.av O') d v := fun d v h => by
    rw [← h1]; exact Rps.mono (fun _ _ _ h => h) (fun _ _ h => h) (fun a xs h n => ⟨h, fun z => n (ha a z)⟩) d v h
  have fo : ∀ (f : FC) (v : V) (m : Option Str), FOk c H O v (ℓ, m) f → FOk c' H O' v (ℓ', m) f := fun f v m h => by
    cases f with
    | fz d => exact rp d v h
    | ow l => obtain ⟨a, vs, e, o, q, r⟩ := h; exact ⟨a, vs, e, hl _ _ o, q, rps _ _ r⟩
    | dk kvs => obtain ⟨a, ws, e, o, q, k, r⟩ := h; exact ⟨a, ws, e, hl _ _ o, q, k, rps _ _ r⟩
    | tow p l => obtain ⟨a, vs, e, ⟨o, hpa⟩, q, r⟩ := h; exact ⟨a, vs, e, ⟨hl _ _ o, hpa⟩, q, rps _ _ r⟩
    | tdk p kvs => obtain ⟨a, ws, e, ⟨o, hpa⟩, q, k, r⟩ := h; exact ⟨a, ws, e, ⟨hl _ _ o, hpa⟩, q, k, rps _ _ r⟩
    | pin p => exact h
  cases ct with
  | no => trivial
  | «at» f => exact fo _ _ _ h
  | ob nm fs =>
    obtain ⟨x, dx, C, vfs, e, o, k, q, r⟩ := h
    exact ⟨x, dx, C, vfs, e, hl _ _ o, by rw [← h2]; exact k, q, r.1, fun f fc z => let ⟨w, e1, e2⟩ := r.2 f fc z; ⟨w, e1, fo _ _ _ e2⟩⟩
  | ds fs =>
    obtain ⟨x, vfs, e, o, hx, r⟩ := h
    exact ⟨x, vfs, e, hl _ _ o, hx, r.1, fun f fc z => let ⟨w, e1, e2⟩ := r.2 f fc z; ⟨w, e1, fo _ _ _ e2⟩⟩
def kOf : Xs → Nat → Nat → Option Nat
  | [], _, _ => none
  | .inl _ :: xs, i, k => kOf xs i (k + 1)
  | .inr j :: xs, i, k => if j = i then some k else kOf xs i (k + 1)
theorem kOf_get : ∀ {xs : Xs} {i k n : Nat}, kOf xs i k = some n → ∃ j, n = k + j ∧ xs[j]? = some (.inr i)
  | [], _, _, _, h => by unfold kOf at h; cases h
  | .inl _ :: xs, i, k, n, h => by
    unfold kOf at h
    obtain ⟨j, e1, e2⟩ := kOf_get h
    exact ⟨j + 1, by omega, by simpa using e2⟩
  | .inr m :: xs, i, k, n, h => by
    unfold kOf at h
    split at h
    · rename_i e; subst e; cases h; exact ⟨0, rfl, rfl⟩
    · obtain ⟨j, e1, e2⟩ := kOf_get h
      exact ⟨j + 1, by omega, by simpa using e2⟩
theorem mem_brs : ∀ {xs : Xs} {i j : Nat}, xs[j]? = some (.inr i) → i ∈ brs xs
  | [], _, _, h => by simp at h
  | .inl _ :: xs, i, 0, h => by simp at h
  | .inl _ :: xs, i, j + 1, h => by unfold brs; exact mem_brs (j := j) (by simpa using h)
  | .inr m :: xs, i, 0, h => by
    simp at h; subst h
    unfold brs; exact List.mem_cons_self
  | .inr m :: xs, i, j + 1, h => by unfold brs; exact List.mem_cons_of_mem _ (mem_brs (j := j) (by simpa using h))
theorem kOf_has : ∀ {xs : Xs} {i j k : Nat}, (brs xs).Nodup → xs[j]? = some (.inr i) → kOf xs i k = some (k + j)
  | [], _, _, _, _, h => by simp at h
  | .inl _ :: xs, i, 0, _, _, h => by simp at h
  | .inl _ :: xs, i, j + 1, k, n, h => by
    unfold kOf
    rw [kOf_has (j := j) (by unfold brs at n; exact n) (by simpa using h)]
    congr 1; omega
  | .inr m :: xs, i, 0, k, n, h => by
    simp at h; subst h
    unfold kOf
    rw [if_pos rfl]; rfl
  | .inr m :: xs, i, j + 1, k, n, h => by
    have h' : xs[j]? = some (.inr i) := by simpa using h
    unfold brs at n
    have ne : m ≠ i := fun z => (List.nodup_cons.mp n).1 (by rw [z]; exact mem_brs h')
    unfold kOf
    rw [if_neg ne, kOf_has (j := j) (List.nodup_cons.mp n).2 h']
    congr 1; omega
theorem kOf_none {xs : Xs} {i : Nat} (h : kOf xs i 0 = none) (n : (brs xs).Nodup) {j : Nat} : xs[j]? ≠ some (.inr i) := fun z => by
  rw [kOf_has (k := 0) n z] at h; cases h
theorem wb_len : ∀ {xs : Xs} {cs : List Ct} {ρ : En}, (wb xs cs ρ).length = ρ.length
  | [], cs, ρ => by unfold wb; rfl
  | .inl _ :: xs, [], ρ => by unfold wb; exact wb_len
  | .inl _ :: xs, _ :: cs, ρ => by unfold wb; exact wb_len
  | .inr i :: xs, [], ρ => by unfold wb; rw [wb_len, List.length_set]
  | .inr i :: xs, _ :: cs, ρ => by unfold wb; rw [wb_len, List.length_set]
theorem wb_out {i : Nat} : ∀ {xs : Xs} {cs : List Ct} {ρ : En}, i ∉ brs xs → (wb xs cs ρ)[i]? = ρ[i]?
  | [], cs, ρ, _ => by unfold wb; rfl
  | .inl _ :: xs, [], ρ, h => by unfold wb; exact wb_out (by unfold brs at h; exact h)
  | .inl _ :: xs, _ :: cs, ρ, h => by unfold wb; exact wb_out (by unfold brs at h; exact h)
  | .inr j :: xs, [], ρ, h => by
    unfold brs at h
    unfold wb
    rw [wb_out (fun z => h (List.mem_cons_of_mem _ z)), List.getElem?_set_ne (fun z => h (by rw [z]; exact List.mem_cons_self))]
  | .inr j :: xs, _ :: cs, ρ, h => by
    unfold brs at h
    unfold wb
    rw [wb_out (fun z => h (List.mem_cons_of_mem _ z)), List.getElem?_set_ne (fun z => h (by rw [z]; exact List.mem_cons_self))]
theorem wb_in {i : Nat} : ∀ {xs : Xs} {cs : List Ct} {ρ : En} {j : Nat} {ct : Ct}, (brs xs).Nodup → xs[j]? = some (.inr i) → (wb xs cs ρ)[i]? = some ct → ct ≠ .no → cs[j]? = some ct
  | [], _, _, _, _, _, h, _, _ => by simp at h
  | .inl _ :: xs, _, _, 0, _, _, h, _, _ => by simp at h
  | .inl _ :: xs, [], ρ, j + 1, ct, n, h, q, hn => by
    unfold wb at q
    have := wb_in (xs := xs) (j := j) (by unfold brs at n; exact n) (by simpa using h) q hn
    simp at this
  | .inl _ :: xs, _ :: cs, ρ, j + 1, ct, n, h, q, hn => by
    unfold wb at q
    have := wb_in (xs := xs) (j := j) (by unfold brs at n; exact n) (by simpa using h) q hn
    simpa using this
  | .inr m :: xs, cs, ρ, 0, ct, n, h, q, hn => by
    simp at h; subst h
    unfold brs at n
    have nm := (List.nodup_cons.mp n).1
    cases cs with
    | nil =>
      unfold wb at q
      rw [wb_out nm] at q
      by_cases hl : m < ρ.length
      · rw [List.getElem?_set_self hl] at q; cases q; exact absurd rfl hn
      · rw [List.getElem?_eq_none (by simpa using hl)] at q; cases q
    | cons c0 cs =>
      unfold wb at q
      rw [wb_out nm] at q
      by_cases hl : m < ρ.length
      · rw [List.getElem?_set_self hl] at q; cases q; rfl
      · rw [List.getElem?_eq_none (by simpa using hl)] at q; cases q
  | .inr m :: xs, cs, ρ, j + 1, ct, n, h, q, hn => by
    unfold brs at n
    cases cs with
    | nil =>
      unfold wb at q
      have := wb_in (xs := xs) (j := j) (List.nodup_cons.mp n).2 (by simpa using h) q hn
      simp at this
    | cons c0 cs =>
      unfold wb at q
      have := wb_in (xs := xs) (j := j) (List.nodup_cons.mp n).2 (by simpa using h) q hn
      simpa using this
theorem AOk.len : ∀ {xs : Xs} {vs : List V}, AOk c H O σ xs vs → vs.length = xs.length
  | [], _, q => by rw [show _ = _ from q]; rfl
  | .inl d :: xs, _, q => by obtain ⟨v, r, e, h1, h2⟩ := q; rw [e]; simp [AOk.len h2]
  | .inr i :: xs, _, q => by obtain ⟨v, r, e, h1, h2⟩ := q; rw [e]; simp [AOk.len h2]
theorem AOk.inl : ∀ {xs : Xs} {vs : List V} {j : Nat} {d : D}, AOk c H O σ xs vs → xs[j]? = some (.inl d) → ∃ v, vs[j]? = some v ∧ Rp c.K H (c.av O) d v
  | [], _, _, _, _, h => by simp at h
  | .inl d :: xs, _, 0, _, q, h => by obtain ⟨v, r, e, h1, h2⟩ := q; subst e; simp at h; subst h; exact ⟨v, rfl, h1⟩
  | .inr i :: xs, _, 0, _, q, h => by simp at h
  | .inl _ :: xs, _, j + 1, _, q, h => by obtain ⟨v, r, e, h1, h2⟩ := q; subst e; obtain ⟨w, e1, e2⟩ := AOk.inl (j := j) h2 (by simpa using h); exact ⟨w, by simpa using e1, e2⟩
  | .inr _ :: xs, _, j + 1, _, q, h => by obtain ⟨v, r, e, h1, h2⟩ := q; subst e; obtain ⟨w, e1, e2⟩ := AOk.inl (j := j) h2 (by simpa using h); exact ⟨w, by simpa using e1, e2⟩
theorem AOk.inr : ∀ {xs : Xs} {vs : List V} {j i : Nat}, AOk c H O σ xs vs → xs[j]? = some (.inr i) → ∃ v, vs[j]? = some v ∧ σ[i]? = some (some v)
  | [], _, _, _, _, h => by simp at h
  | .inr d :: xs, _, 0, _, q, h => by obtain ⟨v, r, e, h1, h2⟩ := q; subst e; simp at h; subst h; exact ⟨v, rfl, h1⟩
  | .inl i :: xs, _, 0, _, q, h => by simp at h
  | .inl _ :: xs, _, j + 1, _, q, h => by obtain ⟨v, r, e, h1, h2⟩ := q; subst e; obtain ⟨w, e1, e2⟩ := AOk.inr (j := j) h2 (by simpa using h); exact ⟨w, by simpa using e1, e2⟩
  | .inr _ :: xs, _, j + 1, _, q, h => by obtain ⟨v, r, e, h1, h2⟩ := q; subst e; obtain ⟨w, e1, e2⟩ := AOk.inr (j := j) h2 (by simpa using h); exact ⟨w, by simpa using e1, e2⟩
theorem cts_get : ∀ {xs : Xs} {j : Nat}, (cts ρ xs)[j]? = (xs[j]?).map fun x => match x with | .inl d => Fz d | .inr i => ρ.getD i .no
  | [], j => by simp [cts]
  | .inl d :: xs, 0 => by simp [cts]
  | .inr d :: xs, 0 => by simp [cts]
  | .inl d :: xs, j + 1 => by simp [cts, cts_get]
  | .inr d :: xs, j + 1 => by simp [cts, cts_get]
theorem cts_len : ∀ {xs : Xs}, (cts ρ xs).length = xs.length
  | [] => rfl
  | .inl d :: xs => by simp [cts, cts_len]
  | .inr d :: xs => by simp [cts, cts_len]
/-- the callee's labels, what it must not touch -/
def calO (O : Ow) (xs : Xs) : Ow := fun a => match O a with
  | some (.s i, m) => (kOf xs i 0).map fun k => (.s k, m)
  | _ => none
def calZ (c : Cc) (O : Ow) (xs : Xs) : Addr → Prop := fun a => c.Z a ∨ (O a ≠ none ∧ calO O xs a = none)
/-- the labels behind the call -/
def backO (O O' : Ow) (xs : Xs) (n : Nat) : Ow := fun a => match O' a with
  | some (.s k, m) => match xs[k]? with
    | some (.inr i) => some (.s i, m)
    | _ => none
  | some (.r, m) => some (.t n, m)
  | some (.t _, _) => none
  | none => if calO O xs a = none then O a else none
theorem calO_some {xs : Xs} {p : Addr} {l : Lab × Option Str} (h : calO O xs p = some l) : ∃ i m k, O p = some (.s i, m) ∧ kOf xs i 0 = some k ∧ l = (.s k, m) := by
  unfold calO at h
  split at h
  · rename_i i m e
    cases q : kOf xs i 0 with
    | none => rw [q] at h; cases h
    | some k => rw [q] at h; cases h; exact ⟨i, m, k, e, q, rfl⟩
  · cases h
theorem av_cal {xs : Xs} {K : PySem.W.Frag} {cls : Str → Option Addr} (p : Addr) : (Cc.mk0 K cls (calZ c O xs)).av (calO O xs) p ↔ c.av O p := by
  show (calZ c O xs p ∨ calO O xs p ≠ none) ↔ (c.Z p ∨ O p ≠ none)
  unfold calZ
  constructor
  · rintro ((h | h) | h)
    · exact .inl h
    · exact .inr h.1
    · refine .inr fun z => h ?_
      unfold calO; rw [z]
  · rintro (h | h)
    · exact .inl (.inl h)
    · by_cases q : calO O xs p = none
      · exact .inl (.inr ⟨h, q⟩)
      · exact .inr q
theorem fzM_len : ∀ {ms : List Bool} {rs : List R} {ρ ρ' : En} {xs : Xs}, fzM ms rs ρ = some (xs, ρ') → xs.length = ms.length
  | [], [], _, _, _, e => by unfold fzM at e; cases e; rfl
  | [], _ :: _, _, _, _, e => by unfold fzM at e; cases e
  | _ :: _, [], _, _, _, e => by unfold fzM at e; cases e
  | m :: ms, r :: rs, ρ, ρ', xs, e => by
    unfold fzM at e
    cases q : fzM ms rs ρ with
    | none => rw [q] at e; cases e
    | some p =>
      obtain ⟨xs', ρ1⟩ := p
      have l := fzM_len q
      rw [q] at e
      cases m with
      | true => cases r <;> cases e; simp [l]
      | false =>
        simp only at e
        cases q2 : fzC ρ1 r with
        | none => rw [q2] at e; cases e
        | some p => obtain ⟨d, ρ''⟩ := p; rw [q2] at e; cases e; simp [l]
theorem fzM_brs : ∀ {ms : List Bool} {rs : List R} {ρ ρ' : En} {xs : Xs}, ms.all (fun b => !b) = true → fzM ms rs ρ = some (xs, ρ') → brs xs = []
  | [], [], _, _, _, _, e => by unfold fzM at e; cases e; rfl
  | [], _ :: _, _, _, _, _, e => by unfold fzM at e; cases e
  | _ :: _, [], _, _, _, _, e => by unfold fzM at e; cases e
  | m :: ms, r :: rs, ρ, ρ', xs, h, e => by
    unfold fzM at e
    simp only [List.all_cons, Bool.and_eq_true] at h
    cases q : fzM ms rs ρ with
    | none => rw [q] at e; cases e
    | some p =>
      obtain ⟨xs', ρ1⟩ := p
      have l := fzM_brs h.2 q
      rw [q] at e
      cases m with
      | true => cases h.1
      | false =>
        simp only at e
        cases q2 : fzC ρ1 r with
        | none => rw [q2] at e; cases e
        | some p => obtain ⟨d, ρ''⟩ := p; rw [q2] at e; cases e; unfold brs; exact l
theorem brs_has : ∀ {xs : Xs} {j : Nat}, j ∈ brs xs → ∃ k : Nat, xs[k]? = some (Sum.inr j)
  | [], _, h => by unfold brs at h; cases h
  | .inl _ :: xs, j, h => by unfold brs at h; obtain ⟨k, e⟩ := brs_has h; exact ⟨k + 1, by simpa using e⟩
  | .inr i :: xs, j, h => by
    unfold brs at h
    rcases List.mem_cons.mp h with e | h
    · subst e; exact ⟨0, rfl⟩
    · obtain ⟨k, e⟩ := brs_has h; exact ⟨k + 1, by simpa using e⟩
theorem call_core {φ : Fn} {xs : Xs} {dcs : List D} {dvs : List V} {vs : List V} {ρ1 : En} {O1 : Ow} {n : Nat} {R0 : R → En → Prop} {E0 : Exn → En → Prop} {Q : VK} {E : XK} (hfl : ∀ v i f, (v, R.alf i f) ∈ τ → i ∉ brs xs) (hd : ∀ H A, Rps c.K H A dcs dvs) (lx : xs.length + dcs.length = n)
    (S1 : Sim0 c H O1 ρ1 τ σ) (A1 : AOk c H O1 σ xs vs) (hnd : (brs xs).Nodup) (how : ∀ i ∈ brs xs, isOw (ρ1.getD i .no) = true) (hφ : φ (cts ρ1 xs ++ dcs.map Fz) (fun r cs' => R0 (.va r) (wb xs cs' ρ1)) (fun x cs' => E0 x (wb xs cs' ρ1)))
    (hE : ∀ x ρ, ¬ E0 x ρ) (hQ : ∀ r ρ' v H', R0 r ρ' → Sim c ρ' ((v, r) :: τ) σ H' → Q v H') : spOf c.K c.cls n φ (vs ++ dvs) H Q E := by
  have lv := A1.len
  have ld : dvs.length = dcs.length := (hd (fun _ => none) (fun _ => False)).length
  refine ⟨calZ c O1 xs, cts ρ1 xs ++ dcs.map Fz, calO O1 xs, _, _, by rw [List.length_append]; omega, by rw [List.length_append, cts_len, List.length_map]; omega, fun a z => ?_, fun a ℓ q => ?_, fun i v ct h1 h2 => ?_, hφ, fun r cs' v H' O' h1 K' => ?_, fun x cs' z => hE _ _ z⟩
  · rcases z with z | z
    · exact S1.zt a z
    · cases q : O1 a with
      | none => exact absurd q z.1
      | some l => have := (S1.ow a l q).2.2; intro hn; rw [hn] at this; exact this
  · obtain ⟨i, m, k, e2, e3, e4⟩ := calO_some q
    refine ⟨?_, (S1.ow a _ e2).2.2⟩
    rintro (z | z)
    · exact (S1.ow a _ e2).1 z
    · rw [q] at z; cases z.2
  · by_cases hi : i < xs.length
    · rw [List.getElem?_append_left (by rw [cts_len]; exact hi), cts_get] at h2
      rw [List.getElem?_append_left (by omega)] at h1
      have hx : xs[i]? = some xs[i] := List.getElem?_eq_getElem hi
      cases hxi : xs[i] with
      | inl d =>
        rw [hxi] at hx
        rw [hx] at h2
        cases h2
        obtain ⟨u, e2, e3⟩ := A1.inl hx
        rw [h1] at e2; cases e2
        exact Rp.mono (fun _ _ _ h => h) (fun _ _ h => h) (fun a xs' h n => ⟨h, fun z => n ((av_cal a).mp z)⟩) d v e3
      | inr j =>
        rw [hxi] at hx
        rw [hx] at h2
        cases h2
        obtain ⟨u, e2, e3⟩ := A1.inr hx
        rw [h1] at e2; cases e2
        have hw := how j (mem_brs hx)
        cases hc : ρ1[j]? with
        | none => rw [List.getD_eq_getElem?_getD, hc] at hw; cases hw
        | some ct' =>
          have e5 : ρ1.getD j .no = ct' := by rw [List.getD_eq_getElem?_getD, hc]; rfl
          rw [e5] at hw
          show COk (Cc.mk0 c.K c.cls (calZ c O1 xs)) H (calO O1 xs) v (.s i) (ρ1.getD j .no)
          rw [e5]
          obtain ⟨u, e6, e7⟩ := S1.sl j ct' hc (by intro z; subst z; cases hw)
          rw [e3] at e6; cases e6
          refine COk.map (c := c) (c' := Cc.mk0 c.K c.cls (calZ c O1 xs)) (O := O1) (O' := calO O1 xs) (ℓ := .s j) (ℓ' := .s i) rfl rfl (fun a m q => ?_) (fun a z => (av_cal a).mp z) e7
          have hk := kOf_has (k := 0) hnd hx
          rw [Nat.zero_add] at hk
          unfold calO
          rw [q]
          show (kOf xs j 0).map _ = _
          rw [hk]; rfl
    · rw [List.getElem?_append_right (by rw [cts_len]; omega), cts_len, List.getElem?_map] at h2
      rw [List.getElem?_append_right (by omega)] at h1
      rw [lv] at h1
      cases hq : dcs[i - xs.length]? with
      | none => rw [hq] at h2; cases h2
      | some d =>
        rw [hq] at h2; cases h2
        obtain ⟨u, e2, e3⟩ := (hd H ((Cc.mk0 c.K c.cls (calZ c O1 xs)).av (calO O1 xs))).get hq
        rw [h1] at e2; cases e2
        exact e3
  · -- behind the call
    refine hQ _ _ _ _ h1 ⟨backO O1 O' xs τ.length, ?_⟩
    have cal0 : ∀ a o, H a = some o → O1 a = none → calO O1 xs a = none := fun a o _ z => by unfold calO; rw [z]
    have oNone : ∀ a o, H a = some o → calO O1 xs a = none → O' a = none := fun a o h1 h2 => by
      cases q : O' a with
      | none => rfl
      | some l =>
        rcases (K'.ow a l q).2.1 with z | z
        · rw [h1] at z; cases z
        · exact absurd h2 z
    have bkN : ∀ a o, H a = some o → calO O1 xs a = none → backO O1 O' xs τ.length a = O1 a := fun a o h1 h2 => by
      unfold backO
      rw [oNone a o h1 h2, if_pos h2]
    have avB : ∀ a, c.av (backO O1 O' xs τ.length) a → (Cc.mk0 c.K c.cls (calZ c O1 xs)).av O' a := fun a z => by
      rcases z with z | z
      · exact .inl (.inl z)
      · cases q : O' a with
        | some l => exact .inr (by rw [q]; simp)
        | none =>
          unfold backO at z
          rw [q] at z
          simp only at z
          by_cases hc : calO O1 xs a = none
          · rw [if_pos hc] at z; exact .inl (.inr ⟨z, hc⟩)
          · rw [if_neg hc] at z; exact absurd rfl z
    have ex : Ext c (fun l _ => ∃ i, l.1 = .s i ∧ kOf xs i 0 ≠ none) O1 (backO O1 O' xs τ.length) H H' := by
      have key : ∀ a o, H a = some o → ¬ Mut (some o) → H' a = some o := fun a o ho nm => by
          refine K'.fr a o ho (cal0 a o ho ?_)
          cases q : O1 a with
          | none => rfl
          | some l => have := (S1.ow a l q).2.2; rw [ho] at this; exact absurd this nm
      refine ⟨fun a o u h => key a _ h (fun z => z), fun a ys h => ?_, fun a ys h n => ?_, fun a l o h n h2 => ?_⟩
      · have key := key a
        rcases h with (h | ⟨u, h⟩) | h
        · exact .inl (.inl (key _ h (fun z => z)))
        · exact .inl (.inr ⟨u, key _ h (fun z => z)⟩)
        · exact .inr h
      · have hz : O1 a = none := by
          cases q : O1 a with
          | none => rfl
          | some l => exact absurd (.inr (by rw [q]; simp)) n
        have hc := cal0 a _ h hz
        refine ⟨K'.fr a _ h hc, ?_⟩
        rintro (z | z)
        · exact n (.inl z)
        · rw [bkN a _ h hc, hz] at z; exact z rfl
      · have hc : calO O1 xs a = none := by
          unfold calO
          rw [h]
          obtain ⟨k, m⟩ := l
          cases k with
          | s i =>
            cases q : kOf xs i 0 with
            | none => simp only [q, Option.map_none]
            | some k => exact absurd ⟨i, rfl, by rw [q]; simp⟩ n
          | t i => rfl
          | r => rfl
        exact ⟨by rw [bkN a o h2 hc]; exact h, K'.fr a o h2 hc⟩
    have tmA : TOk c H' (backO O1 O' xs τ.length) σ τ := by
      refine S1.tm.mono ex (fun k m a hk z => by obtain ⟨i, e, _⟩ := z; cases e) (fun w i f m x C dx vfs hx z => ?_)
      obtain ⟨j, e, z⟩ := z
      cases e
      apply z
      cases q : kOf xs i 0 with
      | none => rfl
      | some k =>
        obtain ⟨j', _, e2⟩ := kOf_get q
        exact absurd (mem_brs e2) (hfl w i f m)
    refine ⟨by rw [wb_len]; exact S1.len, fun a o h2 h3 => ?_, fun a l q => ?_, fun a z => ?_, S1.io, fun j ct q hn' => ?_, ?_, tmA⟩
    · have h4 := S1.fr a o h2 h3
      refine K'.fr a o h4 ?_
      cases q : calO O1 xs a with
      | none => rfl
      | some l =>
        obtain ⟨i, m, k, e2, _⟩ := calO_some q
        rcases (S1.ow a _ e2).2.1 with z | z
        · rw [h2] at z; cases z
        · exact absurd z h3
    · cases q' : O' a with
      | some l' =>
        obtain ⟨z1, z2, z3⟩ := K'.ow a l' q'
        refine ⟨fun z => z1 (.inl z), ?_, z3⟩
        rcases z2 with z2 | z2
        · exact S1.h0_none z2
        · cases q2 : calO O1 xs a with
          | none => exact absurd q2 z2
          | some l2 =>
            obtain ⟨i, m, k, e2, _⟩ := calO_some q2
            exact (S1.ow a _ e2).2.1
      | none =>
        unfold backO at q
        rw [q'] at q
        simp only at q
        by_cases hc : calO O1 xs a = none
        · rw [if_pos hc] at q
          obtain ⟨z1, z2, z3⟩ := S1.ow a l q
          refine ⟨z1, z2, ?_⟩
          cases hh : H a with
          | none => rw [hh] at z3; exact z3.elim
          | some o => rw [K'.fr a o hh hc]; rw [hh] at z3; exact z3
        · rw [if_neg hc] at q; cases q
    · cases hh : H a with
      | none => exact absurd hh (S1.zt a z)
      | some o =>
        rw [K'.fr a o hh ?_]; simp
        cases q2 : calO O1 xs a with
        | none => rfl
        | some l2 =>
          obtain ⟨i, m, k, e2, _⟩ := calO_some q2
          exact absurd z (S1.ow a _ e2).1
    · by_cases hj : j ∈ brs xs
      · have := brs_has hj
        obtain ⟨k, hk⟩ := this
        have hcs := wb_in hnd hk q hn'
        obtain ⟨u, e2, e3⟩ := A1.inr hk
        refine ⟨u, e3, ?_⟩
        have hka : k < vs.length := (List.getElem?_eq_some_iff.mp e2).1
        have := K'.args k u ct (by rw [List.getElem?_append_left hka]; exact e2) hcs
        refine COk.map (c := Cc.mk0 c.K c.cls (calZ c O1 xs)) (c' := c) (O := O') (O' := backO O1 O' xs τ.length) (ℓ := .s k) (ℓ' := .s j) rfl rfl (fun a m q => ?_) avB this
        unfold backO
        rw [q]
        simp only [hk]
      · rw [wb_out hj] at q
        obtain ⟨u, e2, e3⟩ := S1.sl j ct q hn'
        refine ⟨u, e2, e3.mono ex (fun m a z => ?_)⟩
        obtain ⟨i, e, z⟩ := z
        cases e
        apply z
        cases q2 : kOf xs j 0 with
        | none => rfl
        | some k => obtain ⟨j', _, e2⟩ := kOf_get q2; exact absurd (mem_brs e2) hj
    · refine COk.map (c := Cc.mk0 c.K c.cls (calZ c O1 xs)) (c' := c) (O := O') (O' := backO O1 O' xs τ.length) (ℓ := .r) (ℓ' := .t τ.length) rfl rfl (fun a m q => ?_) avB K'.ret
      unfold backO
      rw [q]
theorem call_ok {φ : Fn} {ms : List Bool} {dcs : List D} {dvs : List V} {rs : List R} {vs : List V} {n : Nat} {R0 : R → En → Prop} {E0 : Exn → En → Prop} {Q : VK} {E : XK} (hfl : ms.all (fun b => !b) = true ∨ NoAlf τ) (hd : ∀ H A, Rps c.K H A dcs dvs) (hn : ms.length + dcs.length = n) (hl : vs.length = rs.length)
    (S : Sim c ρ (tmps τ vs rs) σ H) (h : callK φ ms dcs rs ρ R0 E0) (hE : ∀ x ρ, ¬ E0 x ρ) (hQ : ∀ r ρ' v H', R0 r ρ' → Sim c ρ' ((v, r) :: τ) σ H' → Q v H') : spOf c.K c.cls n φ (vs ++ dvs) H Q E := by
  obtain ⟨O, S⟩ := S
  unfold callK at h
  split at h
  · rename_i xs ρ1 e1
    obtain ⟨hnd, how, hφ⟩ := h
    obtain ⟨O1, S1, A1, _⟩ := fzM_ok hl S e1
    have lx : xs.length = ms.length := fzM_len e1
    have hb : ms.all (fun b => !b) = true → brs xs = [] := fun hm => fzM_brs hm e1
    exact call_core (fun v i f m z => hfl.elim (fun h => by rw [hb h] at z; cases z) fun h => h v i f m) hd (by omega) S1 A1 hnd how hφ hE hQ
  · exact h.elim
end
end Pm

namespace Pm
open PySem PySem.Spec PyProof.Rows L2
section
variable {c : Cc} {O O' : Ow} {H H' : Hp} {ρ ρ' : En} {τ τ' : List (V × R)} {σ : St} {v : V} {ℓ ℓ' : Lab} {ct : Ct} {X : Cx} {ek : EK} {fl : Bool}
variable {a b e : Expr} {rest : List Expr} {Ta Tb Te : TEp} {TA' TB' TT' : TTp} {pos : Pos} {T U : TSp} {TA TB : TAp} {es : List Expr}

/-! ### a def that stands in the module -/
structure DefOk (P : Program) (w : World) (K : PySem.W.Frag) (cls : Str → Option Addr) (mg : Str → Option Value) (base : Heap) (x : Str) (n : Nat) (dcs : List D) (k : Nat) (φ : Fn) : Prop where
  ex : ∃ f fd ps ds dvs, mg x = some (.ref f) ∧ PySem.W.keepIn K (.ref f) = true ∧ Binds K fd ps ds ∧ Vals dvs ds ∧ (∀ H A, Rps K H A dcs dvs) ∧ FnOk P w K mg base CX0 k f fd ps (spOf K cls n φ)
def tCall (φ : Fn) (ms : List Bool) (dcs : List D) (TA : TAp) : TEp := fun ρ R E => TA ρ (fun rs ρ1 => callK φ ms dcs rs ρ1 R E) E
theorem p_call {x : Str} {n k k' : Nat} {dcs : List D} {φ : Fn} {p : Pos} (ms : List Bool) (F : DefOk X.prog X.w X.K c.cls X.mg X.base x n dcs k φ) (hr : Room k' X.A) (hk : k ≤ k') (ha : PAp c ek0 fl X (e :: es) TA) (hfl : (ms.all (fun b => !b) || fl) = true := by rfl) (hn : ms.length + dcs.length = n := by rfl) (hg : Gl X x := by rfl) (hK : X.K = c.K := by rfl)
    (hdb : (x == ("__debug__" : Str)) = false := by decide) (he : starEach (e :: es) X.env = (false, eval e X.env) :: starEach es X.env := by rfl) (hpl : (backTo pos (starEach es X.env)).any (·.1) = false := by rfl) :
    PEp c ek0 fl X (.Call (.Name x p) (e :: es) [] pos) (tCall φ ms dcs TA) := by
  obtain ⟨f, fd, ps, ds, dvs, hm, hkp, hb, hd, hdd, F⟩ := F.ex
  rw [hK] at F
  refine ⟨fun pins s σ H Q I h => ?_⟩
  obtain ⟨ρ, τ, R0, E0, S, hT, hQ, hE⟩ := h
  have F' : FnOk X.prog X.w X.K X.mg X.base CX0 k f fd ps (spOf c.K c.cls n φ) := by rw [hK]; exact F
  refine (pe_call F' (hr.mono hk) hg hm hkp hb hd pass0 ha hdb he hpl).run pins s σ H Q I ⟨ρ, τ, _, E0, S, hT, fun rs ρ1 vs H1 h1 hl S1 => ?_, hE⟩
  refine call_ok ?_ (by rw [← hK]; exact hdd) hn hl S1 h1 (fun x ρ => hE.1 x ρ) hQ
  rcases (by simpa using hfl : (∀ x ∈ ms, x = false) ∨ fl = true) with z | z
  · left; simpa using z
  · right; exact hE.2 z
theorem p_call0 {x : Str} {n k k' : Nat} {dcs : List D} {φ : Fn} {p : Pos} (F : DefOk X.prog X.w X.K c.cls X.mg X.base x n dcs k φ) (hr : Room k' X.A) (hk : k ≤ k') (hn : dcs.length = n := by rfl) (hg : Gl X x := by rfl) (hK : X.K = c.K := by rfl)
    (hdb : (x == ("__debug__" : Str)) = false := by decide) : PEp c ek0 fl X (.Call (.Name x p) [] [] pos) (tCall φ [] dcs tANil) := by
  obtain ⟨f, fd, ps, ds, dvs, hm, hkp, hb, hd, hdd, F⟩ := F.ex
  have F' : FnOk X.prog X.w X.K X.mg X.base CX0 k f fd ps (spOf c.K c.cls n φ) := by rw [← hK]; exact F
  refine ⟨fun pins s σ H Q I h => ?_⟩
  obtain ⟨ρ, τ, R0, E0, S, hT, hQ, hE⟩ := h
  refine (pe_call0 F' (hr.mono hk) hg hm hkp hb hd pass0 hdb).run pins s σ H Q I ?_
  exact call_ok (E := L2.E0) (vs := []) (rs := []) (ms := []) (dcs := dcs) (τ := τ) (.inl rfl) (by rw [← hK]; exact hdd) (by simpa using hn) rfl S (show callK φ [] dcs [] ρ R0 E0 from hT) (fun x ρ => hE.1 x ρ) hQ

/-! ### built-ins -/
abbrev CbT := List R → En → (R → En → Prop) → Prop
def CbOk (c : Cc) (r : List V → Hp → VK → Prop) (T : CbT) : Prop := ∀ (σ : St) (ρ : En) (τ : List (V × R)) (vs : List V) (rs : List R) (H : Hp) (Q : VK) (R0 : R → En → Prop), Sim c ρ (tmps τ vs rs) σ H → vs.length = rs.length → T rs ρ R0 →
  (∀ r ρ' w H', R0 r ρ' → Sim c ρ' ((w, r) :: τ) σ H' → Q w H') → r vs H Q
def tCb (T : CbT) (TA : TAp) : TEp := fun ρ R E => TA ρ (fun rs ρ1 => T rs ρ1 R) E
section
variable {x : Str} {p : Pos} {id Ty : String} {r : List V → Hp → VK → Prop} {CT : CbT}
theorem p_cb (hc : CallR X (.builtin id) r) (ok : CbOk c r CT) (hm : X.mg x = none) (ha : PAp c ek fl X (e :: es) TA) (hv : bootBuiltins x = some (.builtin id) := by decide +kernel) (hg : Gl X x := by rfl) (hn : x ≠ "__name__" := by decide) (hdb : (x == ("__debug__" : Str)) = false := by decide)
    (he : starEach (e :: es) X.env = (false, eval e X.env) :: starEach es X.env := by rfl) (hpl : (backTo pos (starEach es X.env)).any (·.1) = false := by rfl) : PEp c ek fl X (.Call (.Name x p) (e :: es) [] pos) (tCb CT TA) := by
  refine ⟨fun pins s σ H Q I h => ?_⟩
  obtain ⟨ρ, τ, R0, E0, S, hT, hQ, hE⟩ := h
  exact (pe_callB hc hg hm hv ha hn hdb he hpl).run pins s σ H Q I ⟨ρ, τ, _, E0, S, hT, fun rs ρ1 vs H1 h1 hl S1 => ok σ ρ1 τ vs rs H1 Q R0 S1 hl h1 hQ, hE⟩
theorem p_cty (hc : CallR X (.type Ty) r) (ok : CbOk c r CT) (hm : X.mg x = none) (ha : PAp c ek fl X (e :: es) TA) (hv : bootBuiltins x = some (.type Ty) := by decide +kernel) (hg : Gl X x := by rfl) (hn : x ≠ "__name__" := by decide) (hdb : (x == ("__debug__" : Str)) = false := by decide)
    (he : starEach (e :: es) X.env = (false, eval e X.env) :: starEach es X.env := by rfl) (hpl : (backTo pos (starEach es X.env)).any (·.1) = false := by rfl) : PEp c ek fl X (.Call (.Name x p) (e :: es) [] pos) (tCb CT TA) := by
  refine ⟨fun pins s σ H Q I h => ?_⟩
  obtain ⟨ρ, τ, R0, E0, S, hT, hQ, hE⟩ := h
  exact (pe_callTy hc hg hm hv ha hn hdb he hpl).run pins s σ H Q I ⟨ρ, τ, _, E0, S, hT, fun rs ρ1 vs H1 h1 hl S1 => ok σ ρ1 τ vs rs H1 Q R0 S1 hl h1 hQ, hE⟩
/-- a module's name for a built-in function (math.gcd) -/
theorem p_cbf (hc : CallR X (.builtin id) r) (ok : CbOk c r CT) (hm : X.mg x = some (.builtin id)) (ha : PAp c ek fl X (e :: es) TA) (hg : Gl X x := by rfl) (hdb : (x == ("__debug__" : Str)) = false := by decide)
    (he : starEach (e :: es) X.env = (false, eval e X.env) :: starEach es X.env := by rfl) (hpl : (backTo pos (starEach es X.env)).any (·.1) = false := by rfl) : PEp c ek fl X (.Call (.Name x p) (e :: es) [] pos) (tCb CT TA) := by
  refine ⟨fun pins s σ H Q I h => ?_⟩
  obtain ⟨ρ, τ, R0, E0, S, hT, hQ, hE⟩ := h
  exact (pe_callBfun hc hg hm ha hdb he hpl).run pins s σ H Q I ⟨ρ, τ, _, E0, S, hT, fun rs ρ1 vs H1 h1 hl S1 => ok σ ρ1 τ vs rs H1 Q R0 S1 hl h1 hQ, hE⟩
end
/-- one or two arguments' data -/
def cD1 (f : D → (D → Prop) → Prop) : CbT := fun rs ρ R => match rs with
  | [r] => wD (vw ρ r) fun d => f d fun d' => R (.va (Fz d')) ρ
  | _ => False
def cD2 (f : D → D → (D → Prop) → Prop) : CbT := fun rs ρ R => match rs with
  | [r, s] => wD (vw ρ r) fun d => wD (vw ρ s) fun d2 => f d d2 fun d' => R (.va (Fz d')) ρ
  | _ => False
/-- where the answer is a plain value -/
def Pl (d : D) (v : V) : Prop := ∀ K H A, Rp K H A d v
theorem Pl.int (i : Int) : Pl (.int i) (.int i) := fun K H A => Rp.ofInt i
theorem Pl.bl (i : Bool) : Pl (.bl i) (.bl i) := fun K H A => Rp.ofBl i
theorem Pl.str (i : Str) : Pl (.str i) (.str i) := fun K H A => Rp.ofStr i
theorem cD1_ok {f : D → (D → Prop) → Prop} {r : List V → Hp → VK → Prop} (h : ∀ (A : Av) (H : Hp) (v : V) (d : D) (Q : VK) (R0 : D → Prop), RpT c.K H A d v → f d R0 → (∀ d' w, R0 d' → Pl d' w → Q w H) → r [v] H Q) : CbOk c r (cD1 f) := by
  intro σ ρ τ vs rs H Q R0 S hl hT hQ
  unfold cD1 at hT
  split at hT
  · rename_i r'
    obtain ⟨d, e1, h1⟩ := hT.of
    match vs, hl with
    | [v], _ =>
      obtain ⟨O, S⟩ := S
      exact h (c.av O) H v d Q _ (S.vw e1) h1 fun d' w h2 pl => hQ _ _ _ _ h2 (Sim.pushFz ⟨O, S.pop⟩ fun A => pl _ _ _)
  · exact hT.elim
theorem cD2_ok {f : D → D → (D → Prop) → Prop} {r : List V → Hp → VK → Prop} (h : ∀ (A : Av) (H : Hp) (v w : V) (d d2 : D) (Q : VK) (R0 : D → Prop), RpT c.K H A d v → RpT c.K H A d2 w → f d d2 R0 → (∀ d' w, R0 d' → Pl d' w → Q w H) → r [v, w] H Q) : CbOk c r (cD2 f) := by
  intro σ ρ τ vs rs H Q R0 S hl hT hQ
  unfold cD2 at hT
  split at hT
  · rename_i r' s'
    obtain ⟨d, e1, h1⟩ := hT.of
    obtain ⟨d2, e2, h1⟩ := h1.of
    match vs, hl with
    | [v, w], _ =>
      obtain ⟨O, S⟩ := S
      obtain ⟨q1, q2⟩ := S.vw2 e1 e2
      exact h (c.av O) H v w d d2 Q _ q1 q2 h1 fun d' w h2 pl => hQ _ _ _ _ h2 (Sim.pushFz ⟨O, S.pop.pop⟩ fun A => pl _ _ _)
  · exact hT.elim
def fLen (d : D) (R : D → Prop) : Prop := match d with
  | .tup l => R (.int l.length)
  | .lst l => R (.int l.length)
  | .scr l => R (.int l.length)
  | .str x => x.length ≤ sizeLine ∧ R (.int x.length)
  | _ => False
theorem len_ok (hK : X.K = c.K) : CbOk c (fun xs H Q => ∃ x n, xs = [x] ∧ LenV X.K x H n ∧ Q (.int n) H) (cD1 fLen) := cD1_ok fun A H v d Q R0 hv hf hQ => by
  rw [hK]
  unfold fLen at hf
  split at hf
  · obtain ⟨a, vs, rfl, q, r⟩ := hv.tup
    refine ⟨_, _, rfl, .inr ⟨vs, q, rfl⟩, ?_⟩
    rw [r.length]; exact hQ _ _ hf (Pl.int _)
  · obtain ⟨a, vs, rfl, q, r⟩ := hv.lst
    refine ⟨_, _, rfl, .inl ⟨vs, SqL.of q, rfl⟩, ?_⟩
    rw [r.length]; exact hQ _ _ hf (Pl.int _)
  · obtain ⟨a, rfl, q⟩ := hv.scr
    refine ⟨_, _, rfl, .inl ⟨_, scr_sq q, rfl⟩, ?_⟩
    rw [List.length_map]; exact hQ _ _ hf (Pl.int _)
  · refine ⟨_, _, rfl, ?_, hQ _ _ hf.2 (Pl.int _)⟩
    rw [hv.str]; exact ⟨hf.1, rfl⟩
  · exact hf.elim
theorem p_len {p : Pos} (hm : X.mg "len" = none) (ha : PAp c ek fl X [e] TA) (hK : X.K = c.K := by rfl) (hg : Gl X "len" := by rfl) (he : starEach [e] X.env = (false, eval e X.env) :: starEach [] X.env := by rfl) (hpl : (backTo pos (starEach [] X.env)).any (·.1) = false := by rfl) :
    PEp c ek fl X (.Call (.Name "len" p) [e] [] pos) (tCb (cD1 fLen) TA) := p_cb call_len (len_ok hK) hm ha boot_len hg (by decide) (by decide) he hpl
def fInt (d : D) (R : D → Prop) : Prop := match d with
  | .int i => R (.int i)
  | .bl b => R (.int (if b then 1 else 0))
  | _ => False
theorem int_ok : CbOk c (fun xs H Q => (∃ i, xs = [.int i] ∧ Q (.int i) H) ∨ ∃ k, xs = [.bl k] ∧ Q (.int (if k then 1 else 0)) H) (cD1 fInt) := cD1_ok fun A H v d Q R0 hv hf hQ => by
  unfold fInt at hf
  split at hf
  · exact .inl ⟨_, by rw [hv.int], hQ _ _ hf (Pl.int _)⟩
  · exact .inr ⟨_, by rw [hv.bl], hQ _ _ hf (Pl.int _)⟩
  · exact hf.elim
def fAbs (d : D) (R : D → Prop) : Prop := match d with
  | .int i => R (.int (if i < 0 then -i else i))
  | _ => False
theorem abs_ok : CbOk c (fun xs H Q => ∃ i, xs = [.int i] ∧ Q (.int (if i < 0 then -i else i)) H) (cD1 fAbs) := cD1_ok fun A H v d Q R0 hv hf hQ => by
  unfold fAbs at hf
  split at hf
  · exact ⟨_, by rw [hv.int], hQ _ _ hf (Pl.int _)⟩
  · exact hf.elim
def fGcd (d d2 : D) (R : D → Prop) : Prop := match d, d2 with
  | .int i, .int j => R (.int ((Nat.gcd i.natAbs j.natAbs : Nat) : Int))
  | _, _ => False
theorem gcd_ok : CbOk c rGcd (cD2 fGcd) := cD2_ok fun A H v w d d2 Q R0 hv hw hf hQ => by
  unfold fGcd at hf
  split at hf
  · exact ⟨_, _, by rw [hv.int, hw.int], hQ _ _ hf (Pl.int _)⟩
  · exact hf.elim
def fMax (d d2 : D) (R : D → Prop) : Prop := match d, d2 with
  | .int i, .int j => R (.int (if j > i then j else i))
  | _, _ => False
def fMin (d d2 : D) (R : D → Prop) : Prop := match d, d2 with
  | .int i, .int j => R (.int (if j < i then j else i))
  | _, _ => False
theorem max_ok : CbOk c (fun xs H Q => ∃ i j, xs = [.int i, .int j] ∧ Q (.int (if j > i then j else i)) H) (cD2 fMax) := cD2_ok fun A H v w d d2 Q R0 hv hw hf hQ => by
  unfold fMax at hf
  split at hf
  · exact ⟨_, _, by rw [hv.int, hw.int], hQ _ _ hf (Pl.int _)⟩
  · exact hf.elim
theorem min_ok : CbOk c (fun xs H Q => ∃ i j, xs = [.int i, .int j] ∧ Q (.int (if j < i then j else i)) H) (cD2 fMin) := cD2_ok fun A H v w d d2 Q R0 hv hw hf hQ => by
  unfold fMin at hf
  split at hf
  · exact ⟨_, _, by rw [hv.int, hw.int], hQ _ _ hf (Pl.int _)⟩
  · exact hf.elim
/-- list(x), tuple(x) -/
def cList : CbT := fun rs ρ R => match rs with
  | [r] => wD (vw ρ r) fun d => match d with
    | .tup l => R (.va (Wl l)) ρ
    | .lst l => R (.va (Wl l)) ρ
    | .scr l => R (.va (Wl (l.map .int))) ρ
    | _ => False
  | _ => False
theorem rps_ints {K : PySem.W.Frag} {A : Av} : ∀ ns : List Int, Rps K H A (ns.map .int) (ns.map V.int)
  | [] => Rps.nil
  | n :: ns => Rps.cons (Rp.ofInt n) (rps_ints ns)
theorem list_ok (hK : X.K = c.K) : CbOk c (fun xs H Q => ∃ p ys, xs = [.ref p] ∧ (SqL X.K H p ys ∨ SqT X.K H p ys) ∧ ∀ l, H l = none → Q (.ref l) (upd H l (.lst ys))) cList := by
  intro σ ρ τ vs rs H Q R0 S hl hT hQ
  rw [hK]
  unfold cList at hT
  split at hT
  · rename_i r'
    obtain ⟨d, e1, h1⟩ := hT.of
    match vs, hl with
    | [v], _ =>
      obtain ⟨O, S⟩ := S
      have hv := S.vw e1
      split at h1
      · obtain ⟨a, vs, rfl, q, r⟩ := hv.tup
        exact ⟨a, vs, rfl, .inr q, fun p hp => hQ _ _ _ _ h1 (S.pop.newLst hp r)⟩
      · obtain ⟨a, vs, rfl, q, r⟩ := hv.lst
        exact ⟨a, vs, rfl, .inl (SqL.of q), fun p hp => hQ _ _ _ _ h1 (S.pop.newLst hp r)⟩
      · obtain ⟨a, rfl, q⟩ := hv.scr
        exact ⟨a, _, rfl, .inl (scr_sq q), fun p hp => hQ _ _ _ _ h1 (S.pop.newLst hp (rps_ints _))⟩
      · exact h1.elim
  · exact hT.elim
def cTuple : CbT := fun rs ρ R => match rs with
  | [r] => wD (vw ρ r) fun d => match d with
    | .tup l => R (.va (Fz (.tup l))) ρ
    | .lst l => R (.va (Fz (.tup l))) ρ
    | _ => False
  | _ => False
theorem tuple_ok (hK : X.K = c.K) : CbOk c (fun xs H Q => ∃ p ys, xs = [.ref p] ∧ ((SqL X.K H p ys ∧ ∀ l, H l = none → Q (.ref l) (upd H l (.tup ys))) ∨ (SqT X.K H p ys ∧ Q (.ref p) H))) cTuple := by
  intro σ ρ τ vs rs H Q R0 S hl hT hQ
  rw [hK]
  unfold cTuple at hT
  split at hT
  · rename_i r'
    obtain ⟨d, e1, h1⟩ := hT.of
    match vs, hl with
    | [v], _ =>
      obtain ⟨O, S⟩ := S
      have hv := S.vw e1
      split at h1
      · obtain ⟨a, vs, rfl, q, r⟩ := hv.tup
        refine ⟨a, vs, rfl, .inr ⟨q, hQ _ _ _ _ h1 ⟨O, S.pop.push ?_⟩⟩⟩
        show Rp _ _ _ _ _
        unfold Rp; exact ⟨a, vs, rfl, q, r⟩
      · obtain ⟨a, vs, rfl, q, r⟩ := hv.lst
        exact ⟨a, vs, rfl, .inl ⟨SqL.of q, fun p hp => hQ _ _ _ _ h1 (S.pop.newTup hp r)⟩⟩
      · exact h1.elim
  · exact hT.elim
/-- isinstance(x, T), T a built-in class by its name -/
def clsD (n : String) : D → Option Bool
  | .non => kitB "NoneType" n
  | .bl _ => kitB "bool" n
  | .int _ => kitB "int" n
  | .str _ => kitB "str" n
  | .tup _ => kitB "tuple" n
  | .lst _ => kitB "list" n
  | .scr _ => none
theorem ty_of {K : PySem.W.Frag} {A : Av} {d : D} (h : RpT K H A d v) {n : String} {b : Bool} (q : clsD n d = some b) : ∃ t, TyX K H v t ∧ PySem.W.kitOne K t (.type n) = some b := by
  cases d with
  | non => rw [h.non]; exact ⟨_, .base .non, kit_ty q⟩
  | bl x => rw [h.bl]; exact ⟨_, .base (.bl x), kit_ty q⟩
  | int x => rw [h.int]; exact ⟨_, .base (.int x), kit_ty q⟩
  | str x => rw [h.str]; exact ⟨_, .base (.str x), kit_ty q⟩
  | tup l =>
    obtain ⟨a, vs, rfl, z, r⟩ := h.tup
    rcases z with (z | ⟨o, z⟩) | ⟨o, its, m, z, z2, _⟩
    · exact ⟨_, .base (.tup z), kit_ty q⟩
    · exact ⟨_, .fTuple z, kit_ty q⟩
    · exact ⟨_, .kTuple z z2, kit_ty q⟩
  | lst l => obtain ⟨a, vs, rfl, z, r⟩ := h.lst; exact ⟨_, .base (.lst z), kit_ty q⟩
  | scr l => cases q
def tIsi (n : String) (Te : TEp) : TEp := fun ρ R E => Te ρ (fun r ρ1 => nA r <| wD (vw ρ1 r) fun d => match clsD n d with | some b => R (.va (Fz (.bl b))) ρ1 | none => False) E
theorem p_isi {n : String} {x : Str} {p q : Pos} (h1 : X.mg "isinstance" = none) (h2 : X.mg x = none) (ha : PEp c ek fl X e Te) (hv : bootBuiltins x = some (.type n) := by decide +kernel) (hg : Gl X "isinstance" := by rfl) (hgx : Gl X x := by rfl) (hK : X.K = c.K := by rfl) (hn : x ≠ "__name__" := by decide) (hdx : (x == ("__debug__" : Str)) = false := by decide)
    (he : starEach [e, .Name x q] X.env = (false, eval e X.env) :: starEach [.Name x q] X.env := by rfl) (he2 : starEach [.Name x q] X.env = (false, eval (.Name x q) X.env) :: starEach [] X.env := by rfl) (hpl : (backTo pos (starEach [.Name x q] X.env)).any (·.1) = false := by rfl) :
    PEp c ek fl X (.Call (.Name "isinstance" p) [e, .Name x q] [] pos) (tIsi n Te) := by
  refine ⟨fun pins s σ H Q I h => ?_⟩
  obtain ⟨ρ, τ, R0, E0, S, hT, hQ, hE⟩ := h
  refine (pe_callB call_isi hg h1 (by decide +kernel) (pa_cons ha (pa_cons (pe_bltn hgx h2 hv (v := .ty n) rfl hn hdx) pa_nil he2) he) (by decide) (by decide) he hpl).run pins s σ H Q I ⟨ρ, τ, _, E0, S, hT, fun r ρ1 v H1 h1 S1 => ?_, hE⟩
  obtain ⟨h1, _⟩ := h1.of (v := v) (τ := τ)
  obtain ⟨d, e1, h2⟩ := h1.of
  obtain ⟨O, S1⟩ := S1
  split at h2
  · rename_i b eb
    obtain ⟨t, ht, hk⟩ := ty_of (S1.vw e1) eb
    exact ⟨v, _, t, _, b, rfl, .ty n, by rw [hK]; exact ht, by rw [hK]; exact hk, hQ _ _ _ _ h2 (Sim.pushFz ⟨O, S1.pop⟩ fun A => Rp.ofBl b)⟩
  · exact h2.elim

/-! ### range -/
def rngD (lo : Int) (n : Nat) : List D := (List.range n).map fun k => .int (lo + (k : Nat))
def iRng1 (TA : TAp) : TIp' := fun ρ R E => TA ρ (fun rs ρ1 => match rs with
  | [r] => wD (vw ρ1 r) fun d => match d with
    | .int j => (-(2 ^ 62) ≤ j ∧ j < 2 ^ 62) ∧ R (rngD 0 j.toNat) ρ1
    | _ => False
  | _ => False) E
def iRng2 (TA : TAp) : TIp' := fun ρ R E => TA ρ (fun rs ρ1 => match rs with
  | [r, s] => wD (vw ρ1 r) fun d => wD (vw ρ1 s) fun d2 => match d, d2 with
    | .int i, .int j => (-(2 ^ 62) ≤ i ∧ i < 2 ^ 62 ∧ -(2 ^ 62) ≤ j ∧ j < 2 ^ 62) ∧ R (rngD i (j - i).toNat) ρ1
    | _, _ => False
  | _ => False) E
theorem rng_it (lo : Int) (n : Nat) : ItOk c (Itr lo n) (rngD lo n) [] := by
  intro σ H ρ τ0 τ i S
  obtain ⟨O, S⟩ := S
  unfold rngD
  refine ⟨fun d hd => ?_, fun hl => show n ≤ i by simpa using hl⟩
  have hi : i < n := by
    by_cases h : i < n
    · exact h
    · rw [List.getElem?_eq_none (by simp; omega)] at hd; cases hd
  rw [List.getElem?_map, List.getElem?_eq_getElem (by simpa using hi)] at hd
  simp at hd
  subst hd
  refine ⟨hi, fun x H' y => ?_⟩
  obtain ⟨e1, e2⟩ := y
  subst e1 e2
  exact ⟨O, S, Rp.ofInt _⟩
theorem i_rng1 {tg : Expr} {p : Pos} (hm : X.mg "range" = none) (ha : PAp c ek fl X [a] TA) (hg : Gl X "range" := by rfl) (hs : starEach [a] X.env = [(false, eval a X.env)] := by rfl) : PIp' c ek fl X tg (.Call (.Name "range" p) [a] [] pos) (iRng1 TA) := by
  refine ⟨fun pins s σ H Q I h => ?_⟩
  obtain ⟨ρ, τ, R0, E0, S, hT, q, q5⟩ := h
  refine (pi_range1 hg hm ha hs).run pins s σ H Q I ⟨ρ, τ, _, _, S, hT, fun rs ρ1 vs H1 h1 hl S1 => ?_, q5⟩
  split at h1
  · rename_i r'
    obtain ⟨d, e1, h1⟩ := h1.of
    match vs, hl with
    | [v], _ =>
      obtain ⟨O, S1⟩ := S1
      have hv := S1.vw e1
      split at h1
      · exact ⟨_, by rw [hv.int], h1.1.1, h1.1.2, q _ _ _ _ [] h1.2 (rng_it _ _) (fun _ _ m => by cases m) ⟨O, S1.pop⟩⟩
      · exact h1.elim
  · exact h1.elim
theorem i_rng2 {tg : Expr} {p : Pos} (hm : X.mg "range" = none) (ha : PAp c ek fl X [a, b] TA) (hg : Gl X "range" := by rfl) (hs : starEach [a, b] X.env = [(false, eval a X.env), (false, eval b X.env)] := by rfl) (hs2 : starEach [b] X.env = [(false, eval b X.env)] := by rfl) :
    PIp' c ek fl X tg (.Call (.Name "range" p) [a, b] [] pos) (iRng2 TA) := by
  refine ⟨fun pins s σ H Q I h => ?_⟩
  obtain ⟨ρ, τ, R0, E0, S, hT, q, q5⟩ := h
  refine (pi_range2 hg hm ha hs hs2).run pins s σ H Q I ⟨ρ, τ, _, _, S, hT, fun rs ρ1 vs H1 h1 hl S1 => ?_, q5⟩
  split at h1
  · rename_i r' s'
    obtain ⟨d, e1, h1⟩ := h1.of
    obtain ⟨d2, e2, h1⟩ := h1.of
    match vs, hl with
    | [v, w], _ =>
      obtain ⟨O, S1⟩ := S1
      obtain ⟨hv, hw⟩ := S1.vw2 e1 e2
      split at h1
      · exact ⟨_, _, by rw [hv.int, hw.int], h1.1, q _ _ _ _ [] h1.2 (rng_it _ _) (fun _ _ m => by cases m) ⟨O, S1.pop.pop⟩⟩
      · exact h1.elim
  · exact h1.elim

/-! ### a[i] = e, of an owned list in a slot -/
def sSub (j : Nat) (Ti Te : TEp) : TSp := fun ρ E => Te ρ (fun r ρ1 => match fzC ρ1 r with
  | some (d, ρ2) => match ρ2[j]? with
    | some (.at (.ow _)) => Ti ρ2 (fun ri ρ3 => match vw ρ3 ri, ρ3[j]? with
      | some (.int i), some (.at (.ow l)) => match ixN l.length i with
        | some n => E.nx (ρ3.set j (Wl (l.set n d)))
        | none => False
      | _, _ => False) E.ex
    | _ => False
  | none => False) E.ex
theorem s_sub (j : Nat) {x : Str} {i : Expr} {Ti : TEp} {p1 p2 : Pos} (hi : PEp c ek true X i Ti) (he : PEp c ek true X e Te) (hN : X.N[j]? = some x := by rfl) (hv : Vis X.env.scope x := by first | exact Or.inl rfl | exact Or.inr (Or.inl rfl) | exact Or.inr (Or.inr rfl)) (hd : (x == ("__debug__" : Str)) = false := by decide) (hcd : (x == ("__classdict__" : Str)) = false := by decide)
    (ha : ∀ v, assign (.Subscript (.Name x p1) i p2) X.env v = (do
      let ov ← holding [v] (eval (.Name x p1) X.env)
      let iv ← holding [v, ov] (eval i X.env)
      standAt p2
      holding [v, ov, iv] (setItem ov iv v)
      release [v, ov, iv] []) := by intro _; rfl)
    (hs : swapsWithSole [.Subscript (.Name x p1) i p2] e pos.line X.env = pure false := by rfl) (hw : swappedStores [.Subscript (.Name x p1) i p2] e X.env = pure none := by rfl)
    (h1 : (assignEach [.Subscript (.Name x p1) i p2] X.env).map (·.2) = [assign (.Subscript (.Name x p1) i p2) X.env] := by rfl) : PSp c ek X (.Assign [.Subscript (.Name x p1) i p2] e pos) (sSub j Ti Te) := by
  refine ⟨fun pins s σ H D I h => ?_⟩
  obtain ⟨ρ, τ, E, S, n, hT, q1, q2, q3, q4, q5⟩ := h
  refine (ps_asg he (pg_sub (pe_var (i := j) hN hv hd hcd) hi set_list ha) hs hw h1).run pins s σ H D I ⟨ρ, τ, _, _, S, hT, fun r ρ1 v H1 h1 S1 => ?_, q5 σ, fun _ => n.alf⟩
  obtain ⟨O, S1⟩ := S1
  split at h1
  · rename_i d ρ2 e1
    obtain ⟨O2, S2, rp, _⟩ := fzC_ok S1 e1
    -- the slot's value, whatever the index does
    split at h1
    · rename_i e0
      obtain ⟨u, hu, _⟩ := S2.sl j _ e0 (by intro z; cases z)
      refine ⟨u, hu, ρ2, (v, .va (Fz d)) :: τ, _, E.ex, ⟨O2, S2.push rp⟩, h1, fun ri ρ3 w H3 h3 S3 => ?_, q5 σ, fun _ => ?_⟩
      · obtain ⟨O3, S3⟩ := S3
        split at h3
        · rename_i i l e3 e4
          split at h3
          · rename_i k ek'
            have hw := (S3.vw e3).int
            have S4 := S3.pop
            obtain ⟨u', e5, a, vs, rfl, oa, hal, rr⟩ := S4.sl j _ e4 (by intro z; cases z)
            rw [hu] at e5; cases e5
            refine ⟨a, vs, i, k, rfl, hw, hal, by rw [rr.length]; exact ek', q1 _ _ _ h3 ?_⟩
            have ex := Ext.wr (c := c) (O := O3) (o := .lst (vs.set k v)) hal True.intro oa
            have rp3 : Rp c.K H3 (c.av O3) d v := S4.tm.1
            have S5 := S4.pop
            refine ⟨O3, by rw [List.length_set]; exact S5.len, fun a' o h4 h5 => ?_, fun a' l' q => ?_, fun a' z => ?_, S5.io, S5.slots_set ex fun _ => ⟨_, hu, a, _, rfl, oa, upd_same, ex.rps (rr.set k rp3)⟩, S5.tm.mono ex (fun k m b _ z => by cases z.1) (fun w i f m _ _ _ _ hx z => by rw [z.2, hal] at hx; rcases hx with hx | hx <;> cases hx)⟩
            · have := S5.fr a' o h4 h5
              rw [upd_ne]; · exact this
              intro z; subst z
              rcases (S5.ow _ _ oa).2.1 with z | z
              · rw [h4] at z; cases z
              · exact h5 z
            · obtain ⟨z1, z2, z3⟩ := S5.ow a' l' q
              refine ⟨z1, z2, ?_⟩
              by_cases hz : a' = a
              · subst hz; rw [upd_same]; trivial
              · rw [upd_ne hz]; exact z3
            · have := S5.zt a' z
              rw [upd_ne]; · exact this
              intro z'; subst z'
              exact (S5.ow _ _ oa).1 z
          · exact h3.elim
        · exact h3.elim
      · intro w i f m
        rcases List.mem_cons.mp m with z | m
        · cases z
        · exact n.alf w i f m
    · exact h1.elim
  · exact h1.elim
end
end Pm

namespace Pm
open PySem PySem.Spec PyProof.Rows L2
section
variable {c : Cc} {O O' : Ow} {H H' : Hp} {ρ ρ' : En} {τ τ' : List (V × R)} {σ σ' : St} {v : V} {ℓ ℓ' : Lab} {ct : Ct} {X : Cx} {ek : EK} {fl : Bool}
variable {a b e : Expr} {rest : List Expr} {Ta Tb Te : TEp} {TA' TB' TT' : TTp} {pos : Pos} {T U : TSp} {TA TB : TAp} {es : List Expr}

/-! ### comprehensions -/
def wipeE (ρ : En) : List Nat → En
  | [] => ρ
  | i :: l => (wipeE ρ l).set i .no
theorem wipeE_len : ∀ {l : List Nat}, (wipeE ρ l).length = ρ.length
  | [] => rfl
  | i :: l => by unfold wipeE; rw [List.length_set, wipeE_len]
theorem wipeE_in {i : Nat} : ∀ {l : List Nat}, i ∈ l → ∀ ct, (wipeE ρ l)[i]? = some ct → ct = .no
  | j :: l, h, ct, q => by
    unfold wipeE at q
    by_cases e : j = i
    · subst e
      by_cases hl : j < (wipeE ρ l).length
      · rw [List.getElem?_set_self hl] at q; cases q; rfl
      · rw [List.getElem?_eq_none (by simpa using hl)] at q; cases q
    · rw [List.getElem?_set_ne e] at q
      rcases List.mem_cons.mp h with h | h
      · exact absurd h.symm e
      · exact wipeE_in h ct q
theorem wipeE_out {i : Nat} : ∀ {l : List Nat}, i ∉ l → (wipeE ρ l)[i]? = ρ[i]?
  | [], _ => rfl
  | j :: l, h => by
    unfold wipeE
    rw [List.getElem?_set_ne (fun e => h (by rw [e]; exact List.mem_cons_self)), wipeE_out (fun z => h (List.mem_cons_of_mem _ z))]
/-- the own slots wiped on both sides; back to any slots that agree elsewhere -/
theorem Sim0.wipe {own : List Nat} (hown : ∀ i ∈ own, c.nb ≤ i) (hlk : ∀ i ∈ own, i ∉ c.lock) (S : Sim0 c H O ρ τ σ) (hl : σ'.length = σ.length) (g : ∀ i, i ∉ own → σ'[i]? = σ[i]?) : Sim0 c H O (wipeE ρ own) τ σ' := by
  refine ⟨by rw [wipeE_len, hl]; exact S.len, S.fr, S.ow, S.zt, fun p hp => ⟨(S.io p hp).1, ?_⟩, fun i ct q n => ?_, S.tm.agree hown g⟩
  · rw [g p.1 (fun z => hlk p.1 z (S.io p hp).1)]
    exact (S.io p hp).2
  · by_cases hi : i ∈ own
    · exact absurd (wipeE_in hi ct q) n
    · rw [wipeE_out hi] at q
      obtain ⟨w, e1, e2⟩ := S.sl i ct q n
      exact ⟨w, by rw [g i hi]; exact e1, e2⟩
theorem wipe_outS {i : Nat} {l : List Nat} (h : i ∉ l) : (wipe σ l)[i]? = σ[i]? := wipe_out h
theorem wipe_inS {i : Nat} : ∀ {l : List Nat}, i ∈ l → i < σ.length → (wipe σ l)[i]? = some none
  | j :: l, h, hl => by
    unfold L2.wipe
    by_cases e : j = i
    · subst e
      rw [List.getElem?_set_self (by rw [wipe_length]; exact hl)]
    · rw [List.getElem?_set_ne e]
      rcases List.mem_cons.mp h with h | h
      · exact absurd h.symm e
      · exact wipe_inS h hl
theorem wipe_agr {own l : List Nat} {σ2 : St} (h : Agr l (wipe σ own) σ2) (hs : ∀ i ∈ l, i ∈ own) : wipe σ2 own = wipe σ own := by
  have hl : σ2.length = σ.length := h.1.trans (wipe_length σ own)
  apply List.ext_getElem?
  intro i
  by_cases hi : i ∈ own
  · by_cases hlt : i < σ.length
    · rw [wipe_inS hi (by omega), wipe_inS hi hlt]
    · rw [List.getElem?_eq_none (by rw [wipe_length]; omega), List.getElem?_eq_none (by rw [wipe_length]; omega)]
  · rw [wipe_outS hi, wipe_outS hi, h.2 i (fun z => hi (hs i z)), wipe_outS hi]
def lcK (g : Tg) (tt : TTp) (te : TEp) (own : List Nat) (E : Exn → En → Prop) (R : R → En → Prop) : List D → List D → En → Prop
  | [], acc, ρ => R (.va (Wl acc)) ρ
  | d :: ds, acc, ρ => match tgK g d (wipeE ρ own) with
    | some ρ2 => tt ρ2 (fun b ρ3 => if b = true then te ρ3 (fun r ρ4 => match fzC ρ4 r with
        | some (dy, ρ5) => acc.length < sizeLine ∧ lcK g tt te own E R ds (acc ++ [dy]) (wipeE ρ5 own)
        | none => False) E else lcK g tt te own E R ds acc (wipeE ρ3 own)) E
    | none => False
def tLc' (TI : TIp') (g : Tg) (tt : TTp) (te : TEp) (own : List Nat) : TEp := fun ρ R E => TI ρ (fun ds ρ1 => lcK g tt te own E R ds [] (wipeE ρ1 own)) E
def tYes' : TTp := fun ρ R _ => R true ρ
abbrev PTsp (c : Cc) (ek : EK) (fl : Bool) (X : Cx) (ifs : List Expr) (T : TTp) : Prop := PTs X ifs (rdT c ek fl T)
theorem ts_nil : PTsp c ek fl X [] tYes' := by
  refine ⟨fun pins s σ H Q I h => ?_⟩
  obtain ⟨ρ, τ, R0, E0, S, hT, hQ, hE⟩ := h
  exact pts_nil.run pins s σ H Q I (hQ _ _ _ hT S)
theorem ts_one (h : PTp c ek fl X e TT') : PTsp c ek fl X [e] TT' := ⟨fun pins s σ H Q I hw => (pts_one h).run pins s σ H Q I hw⟩
theorem mono_rd {T : TEp} (h : PEp c ek false X e T) : PEp c ek fl X e T := ⟨fun pins s σ H Q I hw => by
  obtain ⟨ρ, τ, R0, E0, S, hT, hQ, hE⟩ := hw
  exact h.run pins s σ H Q I ⟨ρ, τ, R0, E0, S, hT, hQ, hE.1, fun z => by cases z⟩⟩
theorem wipeE_eq {l : List Nat} (h : ∀ j ∈ l, ∀ ct, ρ[j]? = some ct → ct = .no) : wipeE ρ l = ρ := by
  apply List.ext_getElem?
  intro i
  by_cases hi : i ∈ l
  · cases q : ρ[i]? with
    | none =>
      rw [List.getElem?_eq_none_iff] at q ⊢
      rw [wipeE_len]; exact q
    | some ct =>
      have e := h i hi ct q
      subst e
      have hl : i < (wipeE ρ l).length := by rw [wipeE_len]; exact (List.getElem?_eq_some_iff.mp q).1
      rw [List.getElem?_eq_getElem hl]
      rw [wipeE_in hi _ (List.getElem?_eq_getElem hl)]
  · exact wipeE_out hi
/-- an owned object is changed: what stays of the state -/
theorem Sim0.wr {p : Addr} {o u : HO} {m : Option Str} (S : Sim0 c H O ρ τ σ) (hp : H p = some u) (ho : O p = some (ℓ, m)) (hm : Mut (some o)) :
    (∀ a o', c.H0 a = some o' → ¬ c.I a → upd H p o a = some o') ∧ (∀ a ℓ, O a = some ℓ → ¬ c.Z a ∧ (c.H0 a = none ∨ c.I a) ∧ Mut (upd H p o a)) ∧ ∀ a, c.Z a → upd H p o a ≠ none := by
  refine ⟨fun a o' h h2 => ?_, fun a ℓ' q => ?_, fun a z => ?_⟩
  · have := S.fr a o' h h2
    rw [upd_ne]; · exact this
    intro z; subst z
    rcases (S.ow _ _ ho).2.1 with z | z
    · rw [h] at z; cases z
    · exact h2 z
  · obtain ⟨z1, z2, z3⟩ := S.ow a ℓ' q
    refine ⟨z1, z2, ?_⟩
    by_cases hz : a = p
    · subst hz; rw [upd_same]; exact hm
    · rw [upd_ne hz]; exact z3
  · have := S.zt a z
    rw [upd_ne]; · exact this
    intro z'; subst z'
    exact (S.ow _ _ ho).1 z
theorem Sim0.appTop {D' : Addr} {l : List D} {d : D} (S : Sim0 c H O ρ ((.ref D', .va (Wl l)) :: τ) σ) (r : Rp c.K H (c.av O) d v) : ∃ vs, H D' = some (.lst vs) ∧ vs.length = l.length ∧ Sim0 c (upd H D' (.lst (vs ++ [v]))) O ρ ((.ref D', .va (Wl (l ++ [d]))) :: τ) σ := by
  obtain ⟨a, vs, e, o, ha, rr⟩ := S.tm.1
  cases e
  have ex := Ext.wr (c := c) (O := O) (o := .lst (vs ++ [v])) ha True.intro o
  obtain ⟨w1, w2, w3⟩ := S.wr (o := .lst (vs ++ [v])) ha o True.intro
  have S' := S.pop
  refine ⟨vs, ha, rr.length, S.len, w1, w2, w3, S.io, fun i ct q n => ?_, ⟨D', _, rfl, o, upd_same, ex.rps (rr.app (.one r))⟩, S'.tm.mono ex (fun k m b hk z => by cases z.1; omega) (fun w i f m x C dx vfs hx z => by cases z.1)⟩
  obtain ⟨w, e1, e2⟩ := S'.sl i ct q n
  exact ⟨w, e1, e2.mono ex (fun m b z => by cases z.1)⟩
/-- the reading of a comprehension -/
theorem lc_rd {TI : TIp'} {g : Tg} {tt : TTp} {te : TEp} {own : List Nat} {Q : VK} (hown : ∀ i ∈ own, c.nb ≤ i) (hlk : ∀ i ∈ own, i ∉ c.lock) (hg : ∀ i ∈ g.sl, i ∈ own) (hek : ∀ E0 σ σ', ek E0 σ → ek E0 σ')
    (h : rd c ek fl (tLc' TI g tt te own) σ H Q) : tLc (rdI c ek fl TI) (rdG c g) (rdT c ek fl tt) (rd c ek fl te) own σ H Q := by
  obtain ⟨ρ, τ, R0, E0, S, hT, hQ, hE⟩ := h
  refine ⟨ρ, τ, _, _, S, hT, fun ds ρ1 J H1 τi h1 hJ ni S1 => ?_, hE⟩
  intro D hD
  have nalf : ∀ {ws : List (V × R)} {v : V} {ct : Ct}, (fl = true → NoAlf ws) → fl = true → NoAlf ((v, R.va ct) :: ws) := fun h z w i f m => by
    rcases List.mem_cons.mp m with e | m
    · cases e
    · exact h z w i f m
  have nalf2 : fl = true → NoAlf ((V.ref D, R.va (Wl [])) :: (τi ++ τ)) := fun z w i f m => by
    rcases List.mem_cons.mp m with e | m
    · cases e
    · rcases List.mem_append.mp m with m | m
      · obtain ⟨ct, e⟩ := ni w _ m; cases e
      · exact hE.2 z w i f m
  have nalf3 : ∀ acc, fl = true → NoAlf ((V.ref D, R.va (Wl acc)) :: (τi ++ τ)) := fun acc z w i f m => by
    rcases List.mem_cons.mp m with e | m
    · cases e
    · exact nalf2 z w i f (List.mem_cons_of_mem _ m)
  refine ⟨fun i m H => m = ds.length - i ∧ i ≤ ds.length ∧ ∃ ρ acc, Sim c ρ ((.ref D, .va (Wl acc)) :: (τi ++ τ)) (wipe σ own) H ∧ (∀ j ∈ own, ∀ ct, ρ[j]? = some ct → ct = .no) ∧ lcK g tt te own E0 R0 (ds.drop i) acc ρ,
    ⟨ds.length, by simp, Nat.zero_le _, wipeE ρ1 own, [], ?_, fun j hj ct q => wipeE_in hj ct q, h1⟩, ?_⟩
  · obtain ⟨O, S1⟩ := S1
    obtain ⟨O2, S2⟩ := S1.newLst hD Rps.nil
    exact ⟨O2, S2.wipe hown hlk (wipe_length σ own) (fun i hi => wipe_outS hi)⟩
  · rintro i m H2 ⟨rfl, hi, ρ2, acc, S2, hno, hk⟩
    obtain ⟨j1, j2⟩ := hJ (wipe σ own) H2 ρ2 [(.ref D, .va (Wl acc))] τ i S2
    by_cases hlt : i < ds.length
    · have hd : ds[i]? = some ds[i] := List.getElem?_eq_getElem hlt
      obtain ⟨jg, jy⟩ := j1 _ hd
      rw [List.drop_eq_getElem_cons hlt] at hk
      unfold lcK at hk
      refine .inr ⟨jg, fun H' => ∃ ρ acc, Sim c ρ ((.ref D, .va (Wl acc)) :: (τi ++ τ)) (wipe σ own) H' ∧ (∀ j ∈ own, ∀ ct, ρ[j]? = some ct → ct = .no) ∧ lcK g tt te own E0 R0 (ds.drop (i + 1)) acc ρ, fun H' hN => ⟨ds.length - (i + 1), by omega, rfl, hlt, hN⟩, fun x H' y => ?_⟩
      obtain ⟨O, S3, rp⟩ := jy x H' y
      split at hk
      · rename_i ρ' e1
        refine ⟨wipeE ρ2 own, _, ds[i], ρ', O, S3.wipe hown hlk rfl (fun _ _ => rfl), .inr (fun j hj => hown j (hg j hj)), rp, e1, fun σ2 agr S4 => ⟨wipe_agr agr hg, ?_⟩⟩
        have back : ∀ {ρ5 : En} {H5 : Hp} {O5 : Ow} {acc : List Pm.D}, Sim0 c H5 O5 ρ5 ((.ref D, .va (Wl acc)) :: (τi ++ τ)) σ2 → Sim0 c H5 O5 (wipeE ρ5 own) ((.ref D, .va (Wl acc)) :: (τi ++ τ)) (wipe σ own) := fun {ρ5 H5 O5 acc} S =>
          S.wipe hown hlk agr.1.symm (fun j hj => (agr.2 j (fun z => hj (hg j z))).symm)
        refine ⟨ρ', _, _, E0, ⟨O, S4⟩, hk, fun b ρ3 H3 h3 S5 => ?_, hek _ _ _ hE.1, nalf3 acc⟩
        cases b with
        | true =>
          rw [if_pos rfl] at h3 ⊢
          refine ⟨ρ3, _, _, E0, S5, h3, fun r ρ4 y H4 h4 S6 => ?_, hek _ _ _ hE.1, nalf3 acc⟩
          obtain ⟨O6, S6⟩ := S6
          split at h4
          · rename_i dy ρ5 e5
            obtain ⟨O7, S7, r7, _⟩ := fzC_ok S6 e5
            obtain ⟨vs, hv, hl, S8⟩ := S7.appTop r7
            exact ⟨vs, hv, by rw [hl]; exact h4.1, _, _, ⟨_, back S8⟩, fun j hj ct q => wipeE_in hj ct q, h4.2⟩
          · exact h4.elim
        | false =>
          rw [if_neg Bool.false_ne_true] at h3 ⊢
          obtain ⟨O5, S5⟩ := S5
          exact ⟨_, acc, ⟨_, back S5⟩, fun j hj ct q => wipeE_in hj ct q, h3⟩
      · exact hk.elim
    · have e : i = ds.length := by omega
      subst e
      rw [List.drop_length] at hk
      unfold lcK at hk
      refine .inl ⟨j2 (Nat.le_refl _), hQ _ _ _ _ hk (Sim.mid (τi := τi) ?_)⟩
      obtain ⟨O, S2⟩ := S2
      have := S2.wipe (σ' := σ) hown hlk (wipe_length σ own).symm (fun j hj => (wipe_outS hj).symm)
      rw [wipeE_eq hno] at this
      exact ⟨O, this⟩
section
variable {elt tg iter : Expr} {ifs : List Expr} {scope : Scope} {own : List (Str × Nat)} {TI : TIp'} {g : Tg} {tt : TTp}
theorem ek0_any : ∀ (E0 : Exn → En → Prop) (σ σ' : St), ek0 E0 σ → ek0 E0 σ' := fun _ _ _ h => h
theorem p_lc (hc : X.calm = true) (hN : X.N.Nodup) (hi : PIp' c ek0 fl X tg iter TI) (ok : BlkOk X.N X.env.scope scope own) (hown : ∀ i ∈ own.map (·.2), c.nb ≤ i) (hlk : ∀ i ∈ own.map (·.2), i ∉ c.lock) (hsl : ∀ i ∈ g.sl, i ∈ own.map (·.2))
    (hg : ∀ (s : Shared) (H : Hp) (C : Addr) (cl : List (Str × Addr)) (fp : List Addr), PGp c (X.blk s H scope (compEnvC scope cl C X.env) fp) tg g) (ht : ∀ (s : Shared) (H : Hp) (C : Addr) (cl : List (Str × Addr)) (fp : List Addr), PTsp c ek0 fl (X.blk s H scope (compEnvC scope cl C X.env) fp) ifs tt)
    (he : ∀ (s : Shared) (H : Hp) (C : Addr) (cl : List (Str × Addr)) (fp : List Addr), PEp c ek0 fl (X.blk s H scope (compEnvC scope cl C X.env) fp) elt Te) (hs : ∀ x, foldedSetIterable iter X.env x = pure x := by intro _; rfl) :
    PEp c ek0 fl X (.ListComp elt [⟨tg, iter, ifs, 0⟩] scope pos) (tLc' TI g tt Te (own.map (·.2))) :=
  ⟨fun pins s σ H Q I h => (pe_lc hc hN hi ok hg ht he hs).run pins s σ H Q I (lc_rd hown hlk hsl ek0_any h)⟩
theorem s_setLc (j : Nat) {y : Str} {py spos : Pos} (hc : X.calm = true) (hN : X.N.Nodup) (hj : j ∉ c.lock) (hi : PIp' c ek0 true X tg iter TI) (ok : BlkOk X.N X.env.scope scope own) (hown : ∀ i ∈ own.map (·.2), c.nb ≤ i) (hlk : ∀ i ∈ own.map (·.2), i ∉ c.lock) (hsl : ∀ i ∈ g.sl, i ∈ own.map (·.2))
    (hg : ∀ (s : Shared) (H : Hp) (C : Addr) (cl : List (Str × Addr)) (fp : List Addr), PGp c (X.blk s H scope (compEnvC scope cl C X.env) fp) tg g) (ht : ∀ (s : Shared) (H : Hp) (C : Addr) (cl : List (Str × Addr)) (fp : List Addr), PTsp c ek0 true (X.blk s H scope (compEnvC scope cl C X.env) fp) ifs tt)
    (he : ∀ (s : Shared) (H : Hp) (C : Addr) (cl : List (Str × Addr)) (fp : List Addr), PEp c ek0 true (X.blk s H scope (compEnvC scope cl C X.env) fp) elt Te) (hy : X.N[j]? = some y := by rfl) (hyl : X.env.scope.names.lookup y = some .local := by rfl)
    (hsw : swapsWith (.ListComp elt [⟨tg, iter, ifs, 0⟩] scope pos) (some (.Name y py)) spos.line X.env = pure true := by exact sw_true rfl rfl (by decide +kernel)) (hs : ∀ x, foldedSetIterable iter X.env x = pure x := by intro _; rfl) :
    PSp c ek0 X (.Assign [.Name y py] (.ListComp elt [⟨tg, iter, ifs, 0⟩] scope pos) spos) (sSet j (tLc' TI g tt Te (own.map (·.2)))) := by
  refine ⟨fun pins s σ H D I h => ?_⟩
  obtain ⟨ρ, τ, E, S, n, hT, q1, q2, q3, q4, q5⟩ := h
  refine (ps_setLc hc hN hy hyl hsw hi ok hg ht he hs).run pins s σ H D I (lc_rd hown hlk hsl ek0_any ⟨ρ, τ, _, _, S, hT, fun r ρ' v H' h1 S1 => ?_, q5 σ, fun _ => n.alf⟩)
  obtain ⟨ct, ρ2, h2, O, S2⟩ := stC_ok S1 h1
  exact q1 _ _ _ h2 (S2.put n hj)
end

/-! ### the law -/
def fnLaw : Fn := fun cs R0 _ => ∃ ns : List Int, cs = [Fz (.scr ns)] ∧ ns.length ≤ 63 ∧ (∀ z ∈ ns, Builtin.Int.intBits z ≤ 1048576) ∧ ∀ cs', R0 (Fz (.bl true)) cs'
theorem law_sp {K : PySem.W.Frag} {cls : Str → Option Addr} {H : Hp} {a : Addr} {ns : List Int} {Q : VK} {E : XK} (h1 : ns.length ≤ 63) (h2 : ∀ z ∈ ns, Builtin.Int.intBits z ≤ 1048576) (h3 : Only H) (h4 : SqL K H a (ns.map V.int)) (hQ : ∀ H', Q (.bl true) H') : spOf K cls 1 fnLaw [.ref a] H Q E := by
  refine ⟨fun _ => False, [Fz (.scr ns)], fun _ => none, fun r _ => r = Fz (.bl true), fun _ _ => False, rfl, rfl, fun _ z => z.elim, fun _ _ z => (by cases z), fun i v ct q1 q2 => ?_, ⟨ns, rfl, h1, h2, fun _ => rfl⟩, fun r cs' v H' O' e K' => ?_, fun _ _ z => z⟩
  · cases i with
    | succ i => simp at q1
    | zero =>
      simp at q1 q2
      subst q1 q2
      show Rp K H ((Cc.mk0 K cls fun _ => False).av fun _ => none) (.scr ns) (.ref a)
      unfold Rp
      refine ⟨a, rfl, ?_⟩
      rcases h4 with (h | h) | h
      · rcases h3 a with z | ⟨o, xs, z⟩
        · rw [h] at z; cases z
        · rw [h] at z; cases z
      · exact .inl h
      · exact .inr (.inr h)
  · subst e
    have h3 : Rp K H' ((Cc.mk0 K cls fun _ => False).av O') (.bl true) v := K'.ret
    rw [h3.top.bl]
    exact hQ H'
/-- what the law's def promises -/
def spL (K : PySem.W.Frag) : Sp := fun vs H Q _ => ∃ (a : Addr) (ns : List Int), vs = [.ref a] ∧ ns.length ≤ 63 ∧ (∀ z ∈ ns, Builtin.Int.intBits z ≤ 1048576) ∧ Only H ∧ SqL K H a (ns.map V.int) ∧ ∀ H', Q (.bl true) H'
theorem spL_of {P : Program} {w : World} {K : PySem.W.Frag} {cls : Str → Option Addr} {mg : Str → Option Value} {base : Heap} {k : Nat} {f : Addr} {fd : FuncData} {x : Str} (F : FnOk P w K mg base CX0 k f fd [x] (spOf K cls 1 fnLaw)) : FnOk P w K mg base CX0 k f fd [x] (spL K) :=
  F.imp fun vs H Q E ⟨a, ns, e, h1, h2, h3, h4, h5⟩ => by subst e; exact law_sp h1 h2 h3 h4 h5
theorem walk {l : PySem.W.OpenLaw} {k : Nat} {q : Program} {loose : List Str} {XP : (Str → Option Value) → Heap → Prop} {YP : World → Heap → Prop} {d : DefRec} {K : Params → PySem.W.Frag} (hn : l.most = some 63) (hdf : d.params.defaults = []) (hr : Room k callerA)
    (hY : ∀ (w : World) (h : Heap), YP w h → (K w.params).In h)
    (F : ∀ (w : World) (mg : Str → Option Value) (fa : Addr) (h : Heap), (K w.params).In h → h.Ns mainGlobals mg → mg d.name = some (.ref fa) →
      ∃ fd : FuncData, (∀ (s : Shared) (u : Value), BindsTo s fd ⟨[u], []⟩ [("_law_script", u)]) ∧ ∀ base : Heap, (K w.params).In base → base.Ns mainGlobals mg → FnOk l.prog w (K w.params) mg base CX0 k fa fd ["_law_script"] (spL (K w.params))) :
    PySem.W.WalkO q loose XP YP l.row.toRowW d [] (fun f vs => PySem.call f vs) :=
  L2.walk_ofB (n := 63) (k := k) (x := "_law_script") (CX := fun _ => CX0) (sp := fun w => spL (K w.params)) hn (by decide) hdf hr hY F (fun _ _ a ns hl hb hO hS => ⟨a, ns, rfl, hl, hb, hO, hS, fun _ => rfl⟩) fun _ _ _ _ _ z => z
/-- a def with defaults -/
theorem fn_okD {P : Program} {w : World} {K : PySem.W.Frag} {cls : Str → Option Addr} {mg : Str → Option Value} {base : Heap} {x qual : Str} {st : Stmt} {dvs : List V} {f : Addr} {fd : FuncData} {N ps : List Str} {k m nb : Nat} {lock : List Nat} {T : TSp} {φ : Fn} (F : FunD K x qual (defArgs st) (defBody st) (defScope st) dvs [] f fd) (S : FnScope N ps (defScope st)) (hm : N.length = ps.length + m)
    (hφ : ∀ cs R0 E0, φ cs R0 E0 → fnOf m lock T cs R0 E0)
    (hbody : ∀ (c : Cc) (cdv : Value) (A : Around) (outer : List Env) (s : Shared) (H : Hp) (E : XK), c.K = K → c.cls = cls → c.lock = lock → c.nb = nb → Room k (A.deeper (envOfC qual (defScope st) s.heap.objs.size f cdv)) →
      PSsp c ek0 (cxOf CX0 P w K mg base N qual (defScope st) f cdv A outer s H E).nox (defBody st) T) : FnOk P w K mg base CX0 (k + 1) f fd ps (spOf K cls ps.length φ) :=
  F.ok S (fun vs H Q E h => let ⟨_, _, _, _, _, h1, _⟩ := h; h1) fun cdv A outer s H vs Q E hr h => let ⟨t, h1, h2⟩ := body_sp hm hφ hbody cdv A outer s H vs Q E hr h; ⟨t, h1.nox, h2⟩
theorem DefOk.mk' {P : Program} {w : World} {K : PySem.W.Frag} {cls : Str → Option Addr} {mg : Str → Option Value} {base : Heap} {x : Str} {f : Addr} {fd : FuncData} {ps : List Str} {n k : Nat} {φ : Fn} (hm : mg x = some (.ref f)) (hk : PySem.W.keepIn K (.ref f) = true) (hb : Binds K fd ps []) (F : FnOk P w K mg base CX0 k f fd ps (spOf K cls ps.length φ)) (hn : ps.length = n) : DefOk P w K cls mg base x n [] k φ :=
  ⟨f, fd, ps, [], [], hm, hk, hb, .nil, fun _ _ => Rps.nil, by rw [← hn]; exact F⟩
theorem DefOk.imp {P : Program} {w : World} {K : PySem.W.Frag} {cls : Str → Option Addr} {mg : Str → Option Value} {base : Heap} {x : Str} {n k : Nat} {dcs : List D} {φ φ' : Fn} (h : DefOk P w K cls mg base x n dcs k φ) (q : ∀ cs R0 E0, φ' cs R0 E0 → φ cs R0 E0) : DefOk P w K cls mg base x n dcs k φ' := by
  obtain ⟨f, fd, ps, ds, dvs, h1, h2, h3, h4, h5, F⟩ := h.ex
  refine ⟨f, fd, ps, ds, dvs, h1, h2, h3, h4, h5, F.imp fun vs H Q E z => ?_⟩
  obtain ⟨Z, cs, O, R0, E0, z1, z2, z3, z4, z5, z6, z7, z8⟩ := z
  exact ⟨Z, cs, O, R0, E0, z1, z2, z3, z4, z5, q _ _ _ z6, z7, z8⟩
theorem DefOk.none {P : Program} {w : World} {K : PySem.W.Frag} {cls : Str → Option Addr} {mg : Str → Option Value} {base : Heap} {x : Str} {f : Addr} {fd : FuncData} {ps : List Str} {n k : Nat} (hm : mg x = some (.ref f)) (hk : PySem.W.keepIn K (.ref f) = true) (hb : Binds K fd ps []) : DefOk P w K cls mg base x n [] k (fun _ _ _ => False) := by
  refine ⟨f, fd, ps, [], [], hm, hk, hb, .nil, fun _ _ => Rps.nil, ⟨fun vs H Q E h => ?_, fun A outer s H args us vs Q E hr h0 hb hv h => ?_⟩⟩
  · obtain ⟨Z, cs, O, R0, E0, z1, z2, z3, z4, z5, z6, z7, z8⟩ := h; exact z6.elim
  · obtain ⟨Z, cs, O, R0, E0, z1, z2, z3, z4, z5, z6, z7, z8⟩ := h; exact z6.elim
theorem clsD_int_int {i : Int} : clsD "int" (.int i) = some true := rfl
theorem clsD_int_bool {i : Int} : clsD "bool" (.int i) = some false := rfl
theorem clsD_int_str {i : Int} : clsD "str" (.int i) = some false := rfl
theorem clsD_int_tuple {i : Int} : clsD "tuple" (.int i) = some false := rfl
theorem clsD_str_str {i : Str} : clsD "str" (.str i) = some true := rfl
theorem clsD_str_tuple {i : Str} : clsD "tuple" (.str i) = some false := rfl
theorem clsD_str_int {i : Str} : clsD "int" (.str i) = some false := rfl
theorem clsD_tup_tuple {l : List D} : clsD "tuple" (.tup l) = some true := rfl
theorem clsD_tup_str {l : List D} : clsD "str" (.tup l) = some false := rfl
theorem clsD_tup_int {l : List D} : clsD "int" (.tup l) = some false := rfl
theorem clsD_non_tuple : clsD "tuple" .non = some false := rfl
theorem clsD_non_str : clsD "str" .non = some false := rfl
theorem clsD_non_int : clsD "int" .non = some false := rfl
theorem clsD_bl_bool {b : Bool} : clsD "bool" (.bl b) = some true := rfl
theorem clsD_bl_int {b : Bool} : clsD "int" (.bl b) = some true := rfl
theorem clsD_bl_tuple {b : Bool} : clsD "tuple" (.bl b) = some false := rfl
section
variable {α : Type} {x0 x1 x2 x3 x4 : α} {l : List α}
theorem atI_k {l : List α} (k : Nat) {x : α} (h : l[k]? = some x) : atI l (k : Int) = some x := atI_nat h
theorem atI_0 : atI (x0 :: l) 0 = some x0 := atI_k 0 rfl
theorem atI_1 : atI (x0 :: x1 :: l) 1 = some x1 := atI_k 1 rfl
theorem atI_2 : atI (x0 :: x1 :: x2 :: l) 2 = some x2 := atI_k 2 rfl
theorem atI_3 : atI (x0 :: x1 :: x2 :: x3 :: l) 3 = some x3 := atI_k 3 rfl
theorem atI_4 : atI (x0 :: x1 :: x2 :: x3 :: x4 :: l) 4 = some x4 := atI_k 4 rfl
theorem ixN5_0 : ixN (0 + 1 + 1 + 1 + 1 + 1) 0 = some 0 := rfl
theorem ixN5_1 : ixN (0 + 1 + 1 + 1 + 1 + 1) 1 = some 1 := rfl
theorem ixN5_2 : ixN (0 + 1 + 1 + 1 + 1 + 1) 2 = some 2 := rfl
theorem ixN5_3 : ixN (0 + 1 + 1 + 1 + 1 + 1) 3 = some 3 := rfl
theorem ixN5_4 : ixN (0 + 1 + 1 + 1 + 1 + 1) 4 = some 4 := rfl
end
end
end Pm

namespace Pm
open PySem PySem.Spec PyProof.Rows L2
/-! ## evaluation: equations that fire on known forms only -/
def Ep.sq (E : Ep) (U : TSp) : Ep := { E with nx := fun ρ' => U ρ' E }
def Ep.lp (E : Ep) (K : En → Prop) : Ep := { E with nx := K, ct := K, bk := E.nx }
def fnE (cs : List Ct) (R0 : Ct → List Ct → Prop) (E0 : Exn → List Ct → Prop) : Ep := ⟨fun ρ => R0 (Fz .non) (outs cs ρ), fun r ρ => retK cs r ρ R0, fun _ => False, fun _ => False, fun x ρ => E0 x (outs cs ρ)⟩
section
variable {E : Ep} {U T : TSp} {ρ : En} {K : En → Prop} {r : R} {x : Exn} {cs : List Ct} {R0 : Ct → List Ct → Prop} {E0 : Exn → List Ct → Prop} {i j : Nat} {d d2 : D} {ct : Ct} {l : List D} {Rr : R → En → Prop} {Ee : Exn → En → Prop}
theorem sq_nx : (E.sq U).nx ρ = U ρ E := rfl
theorem sq_rt : (E.sq U).rt = E.rt := rfl
theorem sq_bk : (E.sq U).bk = E.bk := rfl
theorem sq_ct : (E.sq U).ct = E.ct := rfl
theorem sq_ex : (E.sq U).ex = E.ex := rfl
theorem lp_nx : (E.lp K).nx = K := rfl
theorem lp_ct : (E.lp K).ct = K := rfl
theorem lp_bk : (E.lp K).bk = E.nx := rfl
theorem lp_rt : (E.lp K).rt = E.rt := rfl
theorem lp_ex : (E.lp K).ex = E.ex := rfl
theorem fn_nx : (fnE cs R0 E0).nx ρ = R0 (Fz .non) (outs cs ρ) := rfl
theorem fn_rt : (fnE cs R0 E0).rt r ρ = retK cs r ρ R0 := rfl
theorem fn_ex : (fnE cs R0 E0).ex x ρ = E0 x (outs cs ρ) := rfl
theorem fnOf_eq {m : Nat} {lock : List Nat} : fnOf m lock T cs R0 E0 = ((∀ i ct, cs[i]? = some ct → isOw ct = true → i ∈ lock) ∧ T (cs ++ List.replicate m .no) (fnE cs R0 E0)) := rfl
-- options
def oD {β : Type} (o : Option β) (k : β → Prop) : Prop := match o with
  | some b => k b
  | none => False
theorem oD_some {β : Type} {b : β} {k : β → Prop} : oD (some b) k = k b := rfl
theorem oD_none {β : Type} {k : β → Prop} : oD (none : Option β) k = False := rfl
theorem wD_oD {o : Option D} {k : D → Prop} : wD o k = oD o k := by cases o <;> rfl
-- names
def nmK (i : Nat) (Rr : R → En → Prop) (ρ : En) : Option Ct → Prop
  | some (.at (.fz d)) => Rr (.va (Fz d)) ρ
  | some .no => False
  | some (.at (.ow _)) => Rr (.al i) ρ
  | some (.at (.dk _)) => Rr (.al i) ρ
  | some (.at _) => Rr (.al i) ρ
  | some (.ob _ _) => Rr (.al i) ρ
  | some (.ds _) => Rr (.al i) ρ
  | none => False
theorem e_nm : tNm i ρ Rr Ee = nmK i Rr ρ ρ[i]? := by
  unfold tNm nmK
  cases ρ[i]? with
  | none => rfl
  | some ct =>
    cases ct with
    | «at» f => cases f <;> rfl
    | _ => rfl
theorem nm_fz : nmK i Rr ρ (some (.at (.fz d))) = Rr (.va (Fz d)) ρ := rfl
theorem nm_ow : nmK i Rr ρ (some (.at (.ow l))) = Rr (.al i) ρ := rfl
theorem nm_dk {kvs : List (Key × D)} : nmK i Rr ρ (some (.at (.dk kvs))) = Rr (.al i) ρ := rfl
def nmcK (Rr : R → En → Prop) (ρ : En) : Option Ct → Prop
  | some (.at (.fz d)) => Rr (.va (Fz d)) ρ
  | _ => False
theorem e_nmC : tNmC i ρ Rr Ee = nmcK Rr ρ ρ[i]? := rfl
theorem nmc_fz : nmcK Rr ρ (some (.at (.fz d))) = Rr (.va (Fz d)) ρ := rfl
theorem e_K : tK d ρ Rr Ee = Rr (.va (Fz d)) ρ := rfl
-- views
def alV : Option Ct → Option D
  | some (.at (.fz d)) => some d
  | some (.at (.ow l)) => some (.lst l)
  | some (.at (.tow _ l)) => some (.lst l)
  | _ => none
theorem vw_fz : vw ρ (.va (.at (.fz d))) = some d := rfl
theorem vw_ow : vw ρ (.va (.at (.ow l))) = some (.lst l) := rfl
theorem vw_al : vw ρ (.al i) = alV ρ[i]? := by
  show ((match ρ[i]? with | some (.at f) => some f | _ => none : Option FC).bind fcD) = alV ρ[i]?
  cases ρ[i]? with
  | none => rfl
  | some ct =>
    cases ct with
    | «at» f => cases f <;> rfl
    | _ => rfl
theorem alV_fz : alV (some (.at (.fz d))) = some d := rfl
theorem alV_ow : alV (some (.at (.ow l))) = some (.lst l) := rfl
theorem nA_va {k : Prop} : nA (.va ct) k = k := rfl
theorem nA_al {k : Prop} : nA (.al i) k = k := rfl
-- freezing
def alZ (i : Nat) (ρ : En) : Option Ct → Option (D × En)
  | some (.at (.fz d)) => some (d, ρ)
  | some (.at (.ow l)) => some (.lst l, ρ.set i (Fz (.lst l)))
  | _ => none
theorem fzC_fz : fzC ρ (.va (.at (.fz d))) = some (d, ρ) := rfl
theorem fzC_ow : fzC ρ (.va (.at (.ow l))) = some (.lst l, ρ) := rfl
theorem fzC_al : fzC ρ (.al i) = alZ i ρ ρ[i]? := by
  show (match ρ[i]? with | some (.at (.fz d)) => some (d, ρ) | some (.at (.ow l)) => some (.lst l, ρ.set i (Fz (.lst l))) | _ => none) = alZ i ρ ρ[i]?
  cases ρ[i]? with
  | none => rfl
  | some ct =>
    cases ct with
    | «at» f => cases f <;> rfl
    | _ => rfl
theorem alZ_fz : alZ i ρ (some (.at (.fz d))) = some (d, ρ) := rfl
theorem alZ_ow : alZ i ρ (some (.at (.ow l))) = some (.lst l, ρ.set i (Fz (.lst l))) := rfl
theorem stC_va {k : Ct → En → Prop} : stC ρ (.va ct) k = k ct ρ := rfl
theorem stC_al {k : Ct → En → Prop} : stC ρ (.al i) k = oD (fzC ρ (.al i)) fun p => k (Fz p.1) p.2 := by
  show (match fzC ρ (.al i) with | some (d, ρ') => k (Fz d) ρ' | none => False) = _
  cases fzC ρ (.al i) with
  | none => rfl
  | some p => rfl
theorem fzL_nil : fzL ρ [] = some ([], ρ) := by unfold fzL; rfl
theorem fzL_cons {rs : List R} : fzL ρ (r :: rs) = (fzL ρ rs).bind fun p => (fzC p.2 r).bind fun q => some (q.1 :: p.1, q.2) := by
  show (match fzL ρ rs with | some (ds, ρ1) => _ | none => none) = _
  cases fzL ρ rs with
  | none => rfl
  | some p =>
    obtain ⟨ds, ρ1⟩ := p
    show (match fzC ρ1 r with | some (d, ρ2) => some (d :: ds, ρ2) | none => none) = (fzC ρ1 r).bind _
    cases fzC ρ1 r <;> rfl
theorem e_fzK {rs : List R} {k : List D → En → Prop} : fzK ρ rs k = oD (fzL ρ rs) fun p => k p.1 p.2 := by
  unfold fzK oD
  cases fzL ρ rs <;> rfl
-- operators
def opB' := opB
theorem b_addI {i j : Int} {Q : Ct → Prop} : opB .Add (.int i) (.int j) Q = Q (Fz (.int (i + j))) := rfl
theorem b_addS {i j : Str} {Q : Ct → Prop} : opB .Add (.str i) (.str j) Q = (i.length + j.length ≤ sizeLine ∧ Q (Fz (.str (i ++ j)))) := rfl
theorem b_addL {l m : List D} {Q : Ct → Prop} : opB .Add (.lst l) (.lst m) Q = (l.length + m.length ≤ sizeLine ∧ Q (Wl (l ++ m))) := rfl
theorem b_addT {l m : List D} {Q : Ct → Prop} : opB .Add (.tup l) (.tup m) Q = (l.length + m.length ≤ sizeLine ∧ Q (Fz (.tup (l ++ m)))) := rfl
theorem b_sub {i j : Int} {Q : Ct → Prop} : opB .Sub (.int i) (.int j) Q = Q (Fz (.int (i - j))) := rfl
theorem b_mul {i j : Int} {Q : Ct → Prop} : opB .Mult (.int i) (.int j) Q = (MulOk i j ∧ Q (Fz (.int (i * j)))) := rfl
theorem b_div {i j : Int} {Q : Ct → Prop} : opB .FloorDiv (.int i) (.int j) Q = (DivOk j ∧ Q (Fz (.int (Int.fdiv i j)))) := rfl
theorem b_mod {i j : Int} {Q : Ct → Prop} : opB .Mod (.int i) (.int j) Q = (j ≠ 0 ∧ Q (Fz (.int (Int.fmod i j)))) := rfl
theorem b_pow {i j : Int} {Q : Ct → Prop} : opB .Pow (.int i) (.int j) Q = ((0 ≤ j ∧ j ≤ 1000000 ∧ i.natAbs < 2 ^ 64) ∧ Q (Fz (.int (i ^ j.toNat)))) := rfl
theorem c_lt {i j : Int} {Q : Bool → Prop} : opC .Lt (.int i) (.int j) Q = Q (decide (i < j)) := rfl
theorem c_le {i j : Int} {Q : Bool → Prop} : opC .LtE (.int i) (.int j) Q = Q (decide (i ≤ j)) := rfl
theorem c_gt {i j : Int} {Q : Bool → Prop} : opC .Gt (.int i) (.int j) Q = Q (decide (j < i)) := rfl
theorem c_ge {i j : Int} {Q : Bool → Prop} : opC .GtE (.int i) (.int j) Q = Q (decide (j ≤ i)) := rfl
theorem c_eqS {i j : Str} {Q : Bool → Prop} : opC .Eq (.str i) (.str j) Q = Q (decide (i = j)) := rfl
theorem c_neS {i j : Str} {Q : Bool → Prop} : opC .NotEq (.str i) (.str j) Q = Q (!decide (i = j)) := rfl
theorem c_eqI {i j : Int} {Q : Bool → Prop} : opC .Eq (.int i) (.int j) Q = Q (decide (i = j)) := by
  show (shp (.int i) ∧ shp (.int j) ∧ Q (eqD (.int i) (.int j))) = _
  have e : eqD (.int i) (.int j) = decide (i = j) := by simp only [eqD, D.py, PyData.eqv]; exact Bool.beq_eq_decide_eq i j
  rw [e]
  exact propext ⟨fun h => h.2.2, fun h => ⟨rfl, rfl, h⟩⟩
theorem c_neI {i j : Int} {Q : Bool → Prop} : opC .NotEq (.int i) (.int j) Q = Q (!decide (i = j)) := by
  show (shp (.int i) ∧ shp (.int j) ∧ Q (!eqD (.int i) (.int j))) = _
  have e : eqD (.int i) (.int j) = decide (i = j) := by simp only [eqD, D.py, PyData.eqv]; exact Bool.beq_eq_decide_eq i j
  rw [e]
  exact propext ⟨fun h => h.2.2, fun h => ⟨rfl, rfl, h⟩⟩
theorem c_eqT {l m : List D} {Q : Bool → Prop} : opC .Eq (.tup l) (.tup m) Q = (shp (.tup l) ∧ shp (.tup m) ∧ Q (eqD (.tup l) (.tup m))) := rfl
theorem c_neT {l m : List D} {Q : Bool → Prop} : opC .NotEq (.tup l) (.tup m) Q = (shp (.tup l) ∧ shp (.tup m) ∧ Q (!eqD (.tup l) (.tup m))) := rfl
theorem c_eqL {l m : List D} {Q : Bool → Prop} : opC .Eq (.lst l) (.lst m) Q = (shp (.lst l) ∧ shp (.lst m) ∧ Q (eqD (.lst l) (.lst m))) := rfl
theorem c_neL {l m : List D} {Q : Bool → Prop} : opC .NotEq (.lst l) (.lst m) Q = (shp (.lst l) ∧ shp (.lst m) ∧ Q (!eqD (.lst l) (.lst m))) := rfl
theorem c_is {Q : Bool → Prop} : opC .Is d .non Q = Q (isNon d) := by cases d <;> rfl
theorem c_isn {Q : Bool → Prop} : opC .IsNot d .non Q = Q (!isNon d) := by cases d <;> rfl
theorem c_in {l : List D} {Q : Bool → Prop} : opC .In d (.lst l) Q = (shp d ∧ shp (.lst l) ∧ Q (l.any fun z => eqD z d)) := by cases d <;> rfl
theorem c_nin {l : List D} {Q : Bool → Prop} : opC .NotIn d (.lst l) Q = (shp d ∧ shp (.lst l) ∧ Q (!l.any fun z => eqD z d)) := by cases d <;> rfl
theorem isNon_non : isNon .non = true := rfl
theorem isNon_int {i : Int} : isNon (.int i) = false := rfl
theorem isNon_str {i : Str} : isNon (.str i) = false := rfl
theorem isNon_tup {l : List D} : isNon (.tup l) = false := rfl
theorem isNon_lst {l : List D} : isNon (.lst l) = false := rfl
theorem isNon_bl {b : Bool} : isNon (.bl b) = false := rfl
theorem shp_int {i : Int} : shp (.int i) := rfl
theorem shp_non : shp .non := rfl
theorem shp_bl {b : Bool} : shp (.bl b) := rfl
theorem shp_intT {i : Int} : shp (.int i) = True := eq_true rfl
theorem shp_nonT : shp .non = True := eq_true rfl
theorem shp_blT {b : Bool} : shp (.bl b) = True := eq_true rfl
theorem shp_ratT {i j : Int} : shp (.tup [.int i, .int j]) = True := eq_true rfl
theorem eqD_int {i j : Int} : eqD (.int i) (.int j) = (i == j) := by simp only [eqD, D.py, PyData.eqv]
theorem eqD_str {i j : Str} : eqD (.str i) (.str j) = (i == j) := by simp only [eqD, D.py, PyData.eqv]
theorem eqD_rat {a b i j : Int} : eqD (.tup [.int a, .int b]) (.tup [.int i, .int j]) = ((a == i) && ((b == j) && true)) := by simp only [eqD, D.py, D.pys, PyData.eqv, PyData.eqvAll]
-- combinators
variable {Ta Tb Te Ti : TEp} {TA TB : TAp} {t u : TTp} {Tr : Bool → En → Prop} {TaR : List R → En → Prop}
theorem e_bin {opT : D → D → (Ct → Prop) → Prop} : tBin opT Ta Tb ρ Rr Ee = Ta ρ (fun ra ρ1 => nA ra (Tb ρ1 (fun rb ρ2 => oD (vw ρ2 ra) fun x => oD (vw ρ2 rb) fun y => opT x y fun ct => Rr (.va ct) ρ2) Ee)) Ee := by
  unfold tBin
  simp only [wD_oD]
theorem e_cmp {op : CmpOp} : tCmp op Ta Tb ρ Rr Ee = Ta ρ (fun ra ρ1 => nA ra (Tb ρ1 (fun rb ρ2 => oD (vw ρ2 ra) fun x => oD (vw ρ2 rb) fun y => opC op x y fun b => Rr (.va (Fz (.bl b))) ρ2) Ee)) Ee := by
  unfold tCmp tBin
  simp only [wD_oD]
theorem e_cmpT {op : CmpOp} : tCmpT op Ta Tb ρ Tr Ee = Ta ρ (fun ra ρ1 => nA ra (Tb ρ1 (fun rb ρ2 => oD (vw ρ2 ra) fun x => oD (vw ρ2 rb) fun y => opC op x y fun b => Tr b ρ2) Ee)) Ee := by
  unfold tCmpT
  simp only [wD_oD]
theorem e_tru : tTru Ta ρ Tr Ee = Ta ρ (fun r ρ1 => oD (vw ρ1 r) fun d => truS d ∧ Tr (truD d) ρ1) Ee := by
  unfold tTru
  simp only [wD_oD]
theorem tru_bl {b : Bool} : truD (.bl b) = b := rfl
theorem tru_int {i : Int} : truD (.int i) = (i != 0) := rfl
theorem tru_non : truD .non = false := rfl
theorem tru_lst : truD (.lst l) = !l.isEmpty := rfl
theorem tru_tup : truD (.tup l) = !l.isEmpty := rfl
theorem tru_str {x : Str} : truD (.str x) = ((x.length : Int) != 0) := rfl
theorem trs_bl {b : Bool} : truS (.bl b) = True := rfl
theorem trs_int {i : Int} : truS (.int i) = True := rfl
theorem trs_non : truS .non = True := rfl
theorem trs_lst : truS (.lst l) = True := rfl
theorem trs_tup : truS (.tup l) = True := rfl
theorem trs_str {x : Str} : truS (.str x) = (x.length ≤ sizeLine) := rfl
theorem e_and : tAnd t u ρ Tr Ee = t ρ (fun b ρ1 => if b = true then u ρ1 Tr Ee else Tr false ρ1) Ee := rfl
theorem e_or : tOr t u ρ Tr Ee = t ρ (fun b ρ1 => if b = true then Tr true ρ1 else u ρ1 Tr Ee) Ee := rfl
theorem e_not : tNot t ρ Tr Ee = t ρ (fun b ρ1 => Tr (!b) ρ1) Ee := rfl
theorem e_yes : tYes' ρ Tr Ee = Tr true ρ := rfl
theorem isB_bl {b : Bool} {k : Bool → Prop} : isB (.va (.at (.fz (.bl b)))) k = k b := rfl
theorem e_andV : tAndV Ta Tb ρ Rr Ee = Ta ρ (fun r ρ1 => isB r fun b => if b = true then Tb ρ1 Rr Ee else Rr (.va (Fz (.bl false))) ρ1) Ee := rfl
theorem e_orV : tOrV Ta Tb ρ Rr Ee = Ta ρ (fun r ρ1 => isB r fun b => if b = true then Rr (.va (Fz (.bl true))) ρ1 else Tb ρ1 Rr Ee) Ee := rfl
theorem e_notV : tNotV Ta ρ Rr Ee = Ta ρ (fun r ρ1 => isB r fun b => Rr (.va (Fz (.bl (!b)))) ρ1) Ee := rfl
theorem e_ifE : tIfE t Ta Tb ρ Rr Ee = t ρ (fun b ρ1 => if b = true then Ta ρ1 Rr Ee else Tb ρ1 Rr Ee) Ee := rfl
def negK (ρ : En) (Rr : R → En → Prop) : D → Prop
  | .int i => Rr (.va (Fz (.int (-i)))) ρ
  | _ => False
theorem e_neg : tNeg Ta ρ Rr Ee = Ta ρ (fun r ρ1 => oD (vw ρ1 r) (negK ρ1 Rr)) Ee := by
  unfold tNeg
  congr 1
  funext r ρ1
  cases vw ρ1 r with
  | none => rfl
  | some d => cases d <;> rfl
theorem neg_int {i : Int} : negK ρ Rr (.int i) = Rr (.va (Fz (.int (-i)))) ρ := rfl
theorem e_aNil : tANil ρ TaR Ee = TaR [] ρ := rfl
theorem e_aOne : tAOne Te ρ TaR Ee = Te ρ (fun r ρ1 => TaR [r] ρ1) Ee := rfl
theorem e_aCons : tACons Te TA ρ TaR Ee = Te ρ (fun r ρ1 => nA r (TA ρ1 (fun rs ρ2 => TaR (r :: rs) ρ2) Ee)) Ee := rfl
theorem e_tup : tTup TA ρ Rr Ee = TA ρ (fun rs ρ1 => fzK ρ1 rs fun ds ρ2 => ds.length ≤ sizeLine ∧ Rr (.va (Fz (.tup ds))) ρ2) Ee := rfl
theorem e_lst : tLst TA ρ Rr Ee = TA ρ (fun rs ρ1 => fzK ρ1 rs fun ds ρ2 => ds.length ≤ sizeLine ∧ Rr (.va (Wl ds)) ρ2) Ee := rfl
theorem e_ix : tIx Ta Tb ρ Rr Ee = Ta ρ (fun ra ρ1 => nA ra (Tb ρ1 (fun rb ρ2 => oD (vw ρ2 ra) fun x => oD (vw ρ2 rb) fun y => ixD x y fun d => Rr (.va (Fz d)) ρ2) Ee)) Ee := by
  unfold tIx
  simp only [wD_oD]
theorem ix_tupD {i : Int} {Q : D → Prop} : ixD (.tup l) (.int i) Q = oD (atI l i) Q := by
  show (match atI l i with | some d => Q d | none => False) = _
  cases atI l i <;> rfl
theorem ix_lstD {i : Int} {Q : D → Prop} : ixD (.lst l) (.int i) Q = oD (atI l i) Q := by
  show (match atI l i with | some d => Q d | none => False) = _
  cases atI l i <;> rfl
theorem ix_strD {i : Int} {z : Str} {Q : D → Prop} : ixD (.str z) (.int i) Q = (z.length ≤ sizeLine ∧ oD (atI z.cps.toList i) fun k => Q (.str ⟨#[k]⟩)) := by
  show (z.length ≤ sizeLine ∧ match atI z.cps.toList i with | some k => Q (.str ⟨#[k]⟩) | none => False) = _
  cases atI z.cps.toList i <;> rfl
theorem e_isi {n : String} : tIsi n Te ρ Rr Ee = Te ρ (fun r ρ1 => nA r (oD (vw ρ1 r) fun d => oD (clsD n d) fun b => Rr (.va (Fz (.bl b))) ρ1)) Ee := by
  unfold tIsi
  congr 1
  funext r ρ1
  congr 1
  cases vw ρ1 r with
  | none => rfl
  | some d => show (match clsD n d with | some b => _ | none => False) = oD (clsD n d) _; cases clsD n d <;> rfl
theorem e_cb {C : CbT} : tCb C TA ρ Rr Ee = TA ρ (fun rs ρ1 => C rs ρ1 Rr) Ee := rfl
theorem e_cD1 {f : D → (D → Prop) → Prop} : cD1 f [r] ρ Rr = oD (vw ρ r) fun d => f d fun d' => Rr (.va (Fz d')) ρ := by
  show wD (vw ρ r) _ = _
  rw [wD_oD]
theorem e_cD2 {f : D → D → (D → Prop) → Prop} {r s : R} : cD2 f [r, s] ρ Rr = oD (vw ρ r) fun d => oD (vw ρ s) fun d2 => f d d2 fun d' => Rr (.va (Fz d')) ρ := by
  show (wD (vw ρ r) fun d => wD (vw ρ s) _) = _
  simp only [wD_oD]
def listK (ρ : En) (Rr : R → En → Prop) : D → Prop
  | .tup l => Rr (.va (Wl l)) ρ
  | .lst l => Rr (.va (Wl l)) ρ
  | .scr l => Rr (.va (Wl (l.map .int))) ρ
  | _ => False
theorem e_list : cList [r] ρ Rr = oD (vw ρ r) (listK ρ Rr) := by
  show wD (vw ρ r) _ = _
  cases vw ρ r with
  | none => rfl
  | some d => cases d <;> rfl
theorem list_tup : listK ρ Rr (.tup l) = Rr (.va (Wl l)) ρ := rfl
theorem list_lst : listK ρ Rr (.lst l) = Rr (.va (Wl l)) ρ := rfl
theorem list_scr {ns : List Int} : listK ρ Rr (.scr ns) = Rr (.va (Wl (ns.map .int))) ρ := rfl
def tupK (ρ : En) (Rr : R → En → Prop) : D → Prop
  | .tup l => Rr (.va (Fz (.tup l))) ρ
  | .lst l => Rr (.va (Fz (.tup l))) ρ
  | _ => False
theorem e_tuple : cTuple [r] ρ Rr = oD (vw ρ r) (tupK ρ Rr) := by
  show wD (vw ρ r) _ = _
  cases vw ρ r with
  | none => rfl
  | some d => cases d <;> rfl
theorem tup_tup : tupK ρ Rr (.tup l) = Rr (.va (Fz (.tup l))) ρ := rfl
theorem tup_lst : tupK ρ Rr (.lst l) = Rr (.va (Fz (.tup l))) ρ := rfl
theorem f_len_tup {Q : D → Prop} : fLen (.tup l) Q = Q (.int l.length) := rfl
theorem f_len_lst {Q : D → Prop} : fLen (.lst l) Q = Q (.int l.length) := rfl
theorem f_len_scr {ns : List Int} {Q : D → Prop} : fLen (.scr ns) Q = Q (.int ns.length) := rfl
theorem f_len_str {x : Str} {Q : D → Prop} : fLen (.str x) Q = (x.length ≤ sizeLine ∧ Q (.int x.length)) := rfl
theorem f_int {i : Int} {Q : D → Prop} : fInt (.int i) Q = Q (.int i) := rfl
theorem f_abs {i : Int} {Q : D → Prop} : fAbs (.int i) Q = Q (.int (if i < 0 then -i else i)) := rfl
theorem f_gcd {i j : Int} {Q : D → Prop} : fGcd (.int i) (.int j) Q = Q (.int ((Nat.gcd i.natAbs j.natAbs : Nat) : Int)) := rfl
theorem f_max {i j : Int} {Q : D → Prop} : fMax (.int i) (.int j) Q = Q (.int (if j > i then j else i)) := rfl
theorem f_min {i j : Int} {Q : D → Prop} : fMin (.int i) (.int j) Q = Q (.int (if j < i then j else i)) := rfl
-- calls
theorem e_call {φ : Fn} {ms : List Bool} {dcs : List D} : tCall φ ms dcs TA ρ Rr Ee = TA ρ (fun rs ρ1 => callK φ ms dcs rs ρ1 Rr Ee) Ee := rfl
theorem e_callK {φ : Fn} {ms : List Bool} {dcs : List D} {rs : List R} : callK φ ms dcs rs ρ Rr Ee = oD (fzM ms rs ρ) fun p => (brs p.1).Nodup ∧ (∀ i ∈ brs p.1, isOw (p.2.getD i .no) = true) ∧ φ (cts p.2 p.1 ++ dcs.map Fz) (fun r cs' => Rr (.va r) (wb p.1 cs' p.2)) (fun x cs' => Ee x (wb p.1 cs' p.2)) := by
  unfold callK oD
  cases fzM ms rs ρ <;> rfl
theorem fzM_nil : fzM [] [] ρ = some ([], ρ) := rfl
theorem fzM_f {ms : List Bool} {rs : List R} : fzM (false :: ms) (r :: rs) ρ = (fzM ms rs ρ).bind fun p => (fzC p.2 r).bind fun q => some (.inl q.1 :: p.1, q.2) := by
  show (match fzM ms rs ρ with | none => none | some (xs, ρ1) => _) = _
  cases fzM ms rs ρ with
  | none => rfl
  | some p =>
    obtain ⟨xs, ρ1⟩ := p
    show (match fzC ρ1 r with | some (d, ρ2) => some (.inl d :: xs, ρ2) | none => none) = (fzC ρ1 r).bind _
    cases fzC ρ1 r <;> rfl
theorem fzM_t {ms : List Bool} {rs : List R} : fzM (true :: ms) (.al i :: rs) ρ = (fzM ms rs ρ).bind fun p => some (.inr i :: p.1, p.2) := by
  show (match fzM ms rs ρ with | none => none | some (xs, ρ1) => _) = _
  cases fzM ms rs ρ <;> rfl
theorem isOw_fz : isOw (.at (.fz d)) = false := rfl
theorem isOw_ow : isOw (.at (.ow l)) = true := rfl
theorem isOw_no : isOw .no = false := rfl
theorem isOw_dk {kvs : List (Key × D)} : isOw (.at (.dk kvs)) = true := rfl
theorem brs_nil : brs [] = [] := rfl
theorem brs_l {xs : Xs} : brs (.inl d :: xs) = brs xs := rfl
theorem brs_r {xs : Xs} : brs (.inr i :: xs) = i :: brs xs := rfl
theorem cts_nil : cts ρ [] = [] := rfl
theorem cts_l {xs : Xs} : cts ρ (.inl d :: xs) = Fz d :: cts ρ xs := rfl
theorem cts_r {xs : Xs} : cts ρ (.inr i :: xs) = ρ.getD i .no :: cts ρ xs := rfl
theorem wb_nil {cs : List Ct} : wb [] cs ρ = ρ := by unfold wb; rfl
theorem wb_l {xs : Xs} {cs : List Ct} : wb (.inl d :: xs) cs ρ = wb xs cs.tail ρ := by cases cs <;> rfl
theorem wb_r {xs : Xs} {cs : List Ct} {c : Ct} : wb (.inr i :: xs) (c :: cs) ρ = wb xs cs (ρ.set i c) := rfl
theorem outs_nil {ρ : En} : outs [] ρ = [] := by unfold outs; rfl
theorem outs_cons {c x : Ct} {cs : List Ct} {ρ : En} : outs (c :: cs) (x :: ρ) = (if isOw c = true then x else .no) :: outs cs ρ := rfl
theorem ret_va : retK cs (.va ct) ρ R0 = R0 ct (outs cs ρ) := rfl
theorem ret_al : retK cs (.al i) ρ R0 = if i < cs.length then oD (fzC ρ (.al i)) (fun p => R0 (Fz p.1) (outs cs p.2)) else oD ρ[i]? (fun ct => R0 ct (outs cs ρ)) := by
  show (if i < cs.length then (match fzC ρ (.al i) with | some (d, ρ') => R0 (Fz d) (outs cs ρ') | none => False) else (match ρ[i]? with | some ct => R0 ct (outs cs ρ) | none => False)) = _
  congr 1
  · cases fzC ρ (.al i) <;> rfl
  · cases ρ[i]? <;> rfl
-- statements
theorem e_sNil : sNil ρ E = E.nx ρ := rfl
theorem e_seq : sSeq T U ρ E = T ρ (E.sq U) := rfl
theorem e_pass : sPass ρ E = E.nx ρ := rfl
theorem e_brk : sBrk ρ E = E.bk ρ := rfl
theorem e_cnt : sCnt ρ E = E.ct ρ := rfl
theorem e_never : sNever ρ E = False := rfl
theorem e_ret : sRet Te ρ E = Te ρ E.rt E.ex := rfl
theorem e_retN : sRetN ρ E = E.rt (.va (Fz .non)) ρ := rfl
theorem e_exp : sExp Te ρ E = Te ρ (fun _ ρ' => E.nx ρ') E.ex := rfl
theorem e_if : sIf t T U ρ E = t ρ (fun b ρ' => if b = true then T ρ' E else U ρ' E) E.ex := rfl
theorem e_set : sSet j Te ρ E = Te ρ (fun r ρ' => stC ρ' r fun ct ρ'' => E.nx (ρ''.set j ct)) E.ex := rfl
def augK (f : Int → Int → Int) (j : Nat) (E : Ep) (i : Int) (ρ : En) : D → Prop
  | .int k => E.nx (ρ.set j (Fz (.int (f i k))))
  | _ => False
def augN (f : Int → Int → Int) (j : Nat) (Te : TEp) (E : Ep) (ρ : En) : Option Ct → Prop
  | some (.at (.fz (.int i))) => Te ρ (fun r ρ' => oD (vw ρ' r) (augK f j E i ρ')) E.ex
  | _ => False
theorem e_aug {f : Int → Int → Int} : sAug f j Te ρ E = augN f j Te E ρ ρ[j]? := by
  have h : ∀ i, (fun r ρ' => match vw ρ' r with | some (.int k) => E.nx (ρ'.set j (Fz (.int (f i k)))) | _ => False) = fun r ρ' => oD (vw ρ' r) (augK f j E i ρ') := fun i => by
    funext r ρ'
    cases vw ρ' r with
    | none => rfl
    | some d => cases d <;> rfl
  unfold sAug augN
  cases ρ[j]? with
  | none => rfl
  | some ct =>
    cases ct with
    | «at» f' =>
      cases f' with
      | fz d =>
        cases d with
        | int i => show Te ρ _ E.ex = Te ρ _ E.ex; rw [← h i]; try rfl
        | _ => rfl
      | _ => rfl
    | _ => rfl
theorem aug_int {f : Int → Int → Int} {i : Int} : augN f j Te E ρ (some (.at (.fz (.int i)))) = Te ρ (fun r ρ' => oD (vw ρ' r) (augK f j E i ρ')) E.ex := rfl
theorem augK_int {f : Int → Int → Int} {i k : Int} : augK f j E i ρ (.int k) = E.nx (ρ.set j (Fz (.int (f i k)))) := rfl
def parK (i j : Nat) (E : Ep) (ρ : En) : List D → Prop
  | [d1, d2] => E.nx ((ρ.set i (Fz d1)).set j (Fz d2))
  | _ => False
theorem e_par : sPar i j TA ρ E = TA ρ (fun rs ρ' => fzK ρ' rs fun ds ρ'' => parK i j E ρ'' ds) E.ex := rfl
theorem par_2 : parK i j E ρ [d, d2] = E.nx ((ρ.set i (Fz d)).set j (Fz d2)) := rfl
theorem e_asg {g : Tg} : sAsg g Te ρ E = Te ρ (fun r ρ' => oD (fzC ρ' r) fun p => oD (tgK g p.1 p.2) E.nx) E.ex := by
  unfold sAsg
  congr 1
  funext r ρ'
  cases fzC ρ' r with
  | none => rfl
  | some p =>
    obtain ⟨d, ρ1⟩ := p
    show (match tgK g d ρ1 with | some ρ2 => E.nx ρ2 | none => False) = oD (tgK g d ρ1) E.nx
    cases tgK g d ρ1 <;> rfl
def subK (j : Nat) (d : D) (E : Ep) (ρ : En) : D → Option Ct → Prop
  | .int i, some (.at (.ow l)) => oD (ixN l.length i) fun n => E.nx (ρ.set j (Wl (l.set n d)))
  | _, _ => False
def subN (j : Nat) (d : D) (Ti : TEp) (E : Ep) (ρ : En) : Option Ct → Prop
  | some (.at (.ow _)) => Ti ρ (fun ri ρ3 => oD (vw ρ3 ri) fun di => subK j d E ρ3 di ρ3[j]?) E.ex
  | _ => False
theorem e_sub : sSub j Ti Te ρ E = Te ρ (fun r ρ1 => oD (fzC ρ1 r) fun p => subN j p.1 Ti E p.2 p.2[j]?) E.ex := by
  unfold sSub
  congr 1
  funext r ρ1
  cases fzC ρ1 r with
  | none => rfl
  | some p =>
    obtain ⟨d, ρ2⟩ := p
    show (match ρ2[j]? with | some (.at (.ow _)) => _ | _ => False) = subN j d Ti E ρ2 ρ2[j]?
    unfold subN
    cases ρ2[j]? with
    | none => rfl
    | some ct =>
      cases ct with
      | «at» f =>
        cases f with
        | ow l =>
          show Ti ρ2 _ E.ex = Ti ρ2 _ E.ex
          congr 1
          funext ri ρ3
          cases vw ρ3 ri with
          | none => rfl
          | some di =>
            cases di with
            | int i =>
              cases ρ3[j]? with
              | none => rfl
              | some ct =>
                cases ct with
                | «at» f =>
                  cases f with
                  | ow l' =>
                    show (match ixN l'.length i with | some n => _ | none => False) = oD (ixN l'.length i) _
                    cases ixN l'.length i <;> rfl
                  | _ => rfl
                | _ => rfl
            | _ => rfl
        | _ => rfl
      | _ => rfl
theorem subN_ow : subN j d Ti E ρ (some (.at (.ow l))) = Ti ρ (fun ri ρ3 => oD (vw ρ3 ri) fun di => subK j d E ρ3 di ρ3[j]?) E.ex := rfl
theorem subK_ow {i : Int} : subK j d E ρ (.int i) (some (.at (.ow l))) = oD (ixN l.length i) fun n => E.nx (ρ.set j (Wl (l.set n d))) := rfl
theorem e_for {TI : TIp'} {g : Tg} : sFor TI g T ρ E = TI ρ (fun ds ρ1 => forK g T ds ρ1 E) E.ex := rfl
theorem for_nil {g : Tg} : forK g T [] ρ E = E.nx ρ := rfl
theorem for_cons {g : Tg} {ds : List D} : forK g T (d :: ds) ρ E = oD (tgK g d ρ) fun ρ1 => T ρ1 (E.lp fun ρ' => forK g T ds ρ' E) := by
  show (match tgK g d ρ with | some ρ1 => _ | none => False) = oD (tgK g d ρ) _
  cases tgK g d ρ <;> rfl
theorem tg_nm : tgK (.nm i) d ρ = some (ρ.set i (Fz d)) := by unfold tgK; rfl
theorem tg_tp {ts : List Tg} : tgK (.tp ts) (.tup l) ρ = tgKs ts l ρ := by unfold tgK; rfl
theorem tgs_nil : tgKs [] [] ρ = some ρ := by unfold tgKs; rfl
theorem tgs_cons {g : Tg} {ts : List Tg} {ds : List D} : tgKs (g :: ts) (d :: ds) ρ = (tgK g d ρ).bind fun ρ' => tgKs ts ds ρ' := by conv => lhs; unfold tgKs
def rngK1 (ρ : En) (K : List D → En → Prop) : D → Prop
  | .int j => (-(2 ^ 62) ≤ j ∧ j < 2 ^ 62) ∧ K (rngD 0 j.toNat) ρ
  | _ => False
def rngK2 (ρ : En) (K : List D → En → Prop) : D → D → Prop
  | .int i, .int j => (-(2 ^ 62) ≤ i ∧ i < 2 ^ 62 ∧ -(2 ^ 62) ≤ j ∧ j < 2 ^ 62) ∧ K (rngD i (j - i).toNat) ρ
  | _, _ => False
def rngL1 (ρ : En) (K : List D → En → Prop) : List R → Prop
  | [r] => oD (vw ρ r) (rngK1 ρ K)
  | _ => False
def rngL2 (ρ : En) (K : List D → En → Prop) : List R → Prop
  | [r, s] => oD (vw ρ r) fun x => oD (vw ρ s) fun y => rngK2 ρ K x y
  | _ => False
theorem rng1_l {K : List D → En → Prop} {rs : List R} : (match rs with
    | [r] => wD (vw ρ r) fun d => match d with
      | .int j => (-(2 ^ 62) ≤ j ∧ j < 2 ^ 62) ∧ K (rngD 0 j.toNat) ρ
      | _ => False
    | _ => False) = rngL1 ρ K rs := by
  match rs with
  | [] => rfl
  | [r] =>
    show (wD (vw ρ r) _) = oD (vw ρ r) (rngK1 ρ K)
    cases vw ρ r with
    | none => rfl
    | some d => cases d <;> rfl
  | _ :: _ :: _ => rfl
theorem rng2_l {K : List D → En → Prop} {rs : List R} : (match rs with
    | [r, s] => wD (vw ρ r) fun d => wD (vw ρ s) fun d2 => match d, d2 with
      | .int i, .int j => (-(2 ^ 62) ≤ i ∧ i < 2 ^ 62 ∧ -(2 ^ 62) ≤ j ∧ j < 2 ^ 62) ∧ K (rngD i (j - i).toNat) ρ
      | _, _ => False
    | _ => False) = rngL2 ρ K rs := by
  match rs with
  | [] => rfl
  | [_] => rfl
  | [r, s] =>
    show (wD (vw ρ r) _) = oD (vw ρ r) _
    cases vw ρ r with
    | none => rfl
    | some d =>
      show (wD (vw ρ s) _) = oD (vw ρ s) _
      cases vw ρ s with
      | none => rfl
      | some d2 => cases d <;> cases d2 <;> rfl
  | _ :: _ :: _ :: _ => rfl
theorem e_rng1 {K : List D → En → Prop} : iRng1 TA ρ K Ee = TA ρ (fun rs ρ1 => rngL1 ρ1 K rs) Ee := by
  unfold iRng1
  congr 1
  funext rs ρ1
  exact rng1_l
theorem e_rng2 {K : List D → En → Prop} : iRng2 TA ρ K Ee = TA ρ (fun rs ρ1 => rngL2 ρ1 K rs) Ee := by
  unfold iRng2
  congr 1
  funext rs ρ1
  exact rng2_l
theorem rngL1_1 {K : List D → En → Prop} : rngL1 ρ K [r] = oD (vw ρ r) (rngK1 ρ K) := rfl
theorem rngL2_2 {K : List D → En → Prop} {r s : R} : rngL2 ρ K [r, s] = oD (vw ρ r) fun x => oD (vw ρ s) fun y => rngK2 ρ K x y := rfl
theorem rngK1_int {K : List D → En → Prop} {j : Int} : rngK1 ρ K (.int j) = ((-(2 ^ 62) ≤ j ∧ j < 2 ^ 62) ∧ K (rngD 0 j.toNat) ρ) := rfl
theorem rngK2_int {K : List D → En → Prop} {i j : Int} : rngK2 ρ K (.int i) (.int j) = ((-(2 ^ 62) ≤ i ∧ i < 2 ^ 62 ∧ -(2 ^ 62) ≤ j ∧ j < 2 ^ 62) ∧ K (rngD i (j - i).toNat) ρ) := rfl
def walkL (K : List D → En → Prop) (ρ : En) : D → Prop
  | .lst l => K l ρ
  | _ => False
def walkT (K : List D → En → Prop) (ρ : En) : D → Prop
  | .tup l => K l ρ
  | _ => False
theorem e_iLst {K : List D → En → Prop} : iLst Te ρ K Ee = Te ρ (fun r ρ' => oD (fzC ρ' r) fun p => walkL K p.2 p.1) Ee := by
  unfold iLst
  congr 1
  funext r ρ'
  cases fzC ρ' r with
  | none => rfl
  | some p => obtain ⟨d, ρ1⟩ := p; cases d <;> rfl
theorem e_iTup {K : List D → En → Prop} : iTup Te ρ K Ee = Te ρ (fun r ρ' => oD (fzC ρ' r) fun p => walkT K p.2 p.1) Ee := by
  unfold iTup
  congr 1
  funext r ρ'
  cases fzC ρ' r with
  | none => rfl
  | some p => obtain ⟨d, ρ1⟩ := p; cases d <;> rfl
theorem walkL_lst {K : List D → En → Prop} : walkL K ρ (.lst l) = K l ρ := rfl
theorem walkT_tup {K : List D → En → Prop} : walkT K ρ (.tup l) = K l ρ := rfl
theorem e_lc {TI : TIp'} {g : Tg} {own : List Nat} : tLc' TI g t Te own ρ Rr Ee = TI ρ (fun ds ρ1 => lcK g t Te own Ee Rr ds [] (wipeE ρ1 own)) Ee := rfl
theorem lc_nil {g : Tg} {own : List Nat} {acc : List D} : lcK g t Te own Ee Rr [] acc ρ = Rr (.va (Wl acc)) ρ := rfl
theorem lc_cons {g : Tg} {own : List Nat} {acc ds : List D} : lcK g t Te own Ee Rr (d :: ds) acc ρ = oD (tgK g d (wipeE ρ own)) fun ρ2 => t ρ2 (fun b ρ3 => if b = true then Te ρ3 (fun r ρ4 => oD (fzC ρ4 r) fun p => acc.length < sizeLine ∧ lcK g t Te own Ee Rr ds (acc ++ [p.1]) (wipeE p.2 own)) Ee else lcK g t Te own Ee Rr ds acc (wipeE ρ3 own)) Ee := by
  show (match tgK g d (wipeE ρ own) with | some ρ2 => _ | none => False) = oD (tgK g d (wipeE ρ own)) _
  cases tgK g d (wipeE ρ own) with
  | none => rfl
  | some ρ2 =>
    show t ρ2 _ Ee = t ρ2 _ Ee
    congr 1
    funext b ρ3
    by_cases hb : b = true
    · rw [if_pos hb, if_pos hb]
      congr 1
      funext r ρ4
      cases fzC ρ4 r <;> rfl
    · rw [if_neg hb, if_neg hb]
theorem wipeE_nil : wipeE ρ [] = ρ := rfl
theorem wipeE_cons {own : List Nat} : wipeE ρ (i :: own) = (wipeE ρ own).set i .no := rfl
end
end Pm

namespace Pm
open PySem PySem.Spec PyProof.Rows L2
section
variable {c : Cc} {O O' : Ow} {H H' : Hp} {ρ ρ' : En} {τ τ' : List (V × R)} {σ σ' : St} {v : V} {ℓ ℓ' : Lab} {ct : Ct} {X : Cx} {ek : EK} {fl : Bool}
variable {a b e : Expr} {rest : List Expr} {Ta Tb Tc Te : TEp} {TA' TB' TT' : TTp} {pos : Pos} {T U : TSp} {TA TB : TAp} {es : List Expr}

/-! ### what is walked: a list or a tuple -/
def iAny (Te : TEp) : TIp' := fun ρ R E => Te ρ (fun r ρ' => match fzC ρ' r with
  | some (.lst l, ρ1) => R l ρ1
  | some (.tup l, ρ1) => R l ρ1
  | _ => False) E
theorem it_lst {tg : Expr} {pins : List (Addr × Obj)} {s : Shared} {p : Addr} {xs : List V} {RR : It → Hp → Prop} (J : Inv X pins σ H s) (h : SqL X.K H p xs) (q : RR (Itl X.K p) H) : wpAny (model X.prog X.w) X.A (pyIter (.ref p)) (PIE X pins σ tg RR) X.xe s := by
  obtain ⟨us, _, pl, _⟩ := J.list h
  refine wpAny_pyIter_list pl.isList ⟨s.heap.objs.size, [s.heap.objs.size], _, _, H, rfl, ?_, turn_list p _, ⟨_, Heap.get?_push_size _ rfl, rfl, rfl⟩, ?_, q⟩
  · exact J.kept (t' := s.toks) fun _ _ h => Heap.get?_push_of_some _ h
  · intro x hx
    rw [List.mem_singleton] at hx
    subst hx
    exact J.fpOk (Nat.le_refl _) (J.hok.fresh (Nat.le_refl _))
theorem it_tup {tg : Expr} {pins : List (Addr × Obj)} {s : Shared} {p : Addr} {xs : List V} {RR : It → Hp → Prop} (J : Inv X pins σ H s) (h : SqT X.K H p xs) (q : RR (Itt X.K p) H) : wpAny (model X.prog X.w) X.A (pyIter (.ref p)) (PIE X pins σ tg RR) X.xe s := by
  obtain ⟨us, _, pl, _⟩ := J.tuple h
  refine wpAny_pyIter_tuple (show s.heap.IsTuple p us.toArray from pl) ⟨s.heap.objs.size, [s.heap.objs.size], _, _, H, rfl, ?_, turn_tuple p _, ⟨_, Heap.get?_push_size _ rfl, rfl, rfl⟩, ?_, q⟩
  · exact J.kept (t' := s.toks) fun _ _ h => Heap.get?_push_of_some _ h
  · intro x hx
    rw [List.mem_singleton] at hx
    subst hx
    exact J.fpOk (Nat.le_refl _) (J.hok.fresh (Nat.le_refl _))
theorem lst_it {p : Addr} {l : List D} (hK : X.K = c.K) : ItOk c (Itl X.K p) l [(.ref p, .va (Fz (.lst l)))] := by
  intro σ H ρ τ0 τ i S
  obtain ⟨O, S⟩ := S
  have rp : Rp c.K H (c.av O) (.lst l) (.ref p) := S.tm.app.1
  obtain ⟨a', vs, e, ha, rr⟩ := rp.top.lst
  cases e
  refine ⟨fun d hd => ?_, fun hl => ⟨vs, SqL.of ha, by rw [rr.length]; exact hl⟩⟩
  obtain ⟨w, hw, rw'⟩ := rr.get hd
  refine ⟨⟨vs, w, SqL.of ha, hw⟩, fun x H' y => ?_⟩
  obtain ⟨e1, y⟩ := y
  subst e1
  have := y vs (SqL.of ha)
  rw [hw] at this
  cases this
  exact ⟨O, S, rw'⟩
theorem tup_it {p : Addr} {l : List D} (hK : X.K = c.K) : ItOk c (Itt X.K p) l [(.ref p, .va (Fz (.tup l)))] := by
  intro σ H ρ τ0 τ i S
  obtain ⟨O, S⟩ := S
  have rp : Rp c.K H (c.av O) (.tup l) (.ref p) := S.tm.app.1
  obtain ⟨a', vs, e, ha, rr⟩ := rp.top.tup
  cases e
  rw [← hK] at ha
  refine ⟨fun d hd => ?_, fun hl => ⟨vs, ha, by rw [rr.length]; exact hl⟩⟩
  obtain ⟨w, hw, rw'⟩ := rr.get hd
  refine ⟨⟨vs, w, ha, hw⟩, fun x H' y => ?_⟩
  obtain ⟨e1, y⟩ := y
  subst e1
  have := y vs ha
  rw [hw] at this
  cases this
  exact ⟨O, S, rw'⟩
theorem i_any {tg : Expr} (he : PEp c ek fl X e Te) (hK : X.K = c.K := by rfl) : PIp' c ek fl X tg e (iAny Te) := by
  refine ⟨fun pins s σ H Q I h => ?_⟩
  obtain ⟨ρ, τ, R0, E0, S, hT, q, q5⟩ := h
  refine thn (he.run pins s σ H (fun v H1 => ∃ l ρ1, (Sim c ρ1 ((v, .va (Fz (.lst l))) :: τ) σ H1 ∨ Sim c ρ1 ((v, .va (Fz (.tup l))) :: τ) σ H1) ∧ R0 l ρ1) I ⟨ρ, τ, _, _, S, hT, fun r ρ' v H' h1 S1 => ?_, q5⟩) fun v s1 ⟨x, H1, I1, rv, l, ρ1, hS, h1⟩ => ?_
  · obtain ⟨O, S1⟩ := S1
    split at h1
    · rename_i l ρ1 e1
      obtain ⟨O2, S2, rp, _⟩ := fzC_ok S1 e1
      exact ⟨l, ρ1, .inl ⟨O2, S2.push rp⟩, h1⟩
    · rename_i l ρ1 e1
      obtain ⟨O2, S2, rp, _⟩ := fzC_ok S1 e1
      exact ⟨l, ρ1, .inr ⟨O2, S2.push rp⟩, h1⟩
    · exact h1.elim
  · rcases hS with ⟨O, S1⟩ | ⟨O, S1⟩
    · have rp : Rp c.K H1 (c.av O) (.lst l) x := S1.tm.1
      obtain ⟨p, vs, rfl, ha, rr⟩ := rp.top.lst
      cases rv
      exact it_lst I1 (SqL.of ha) (q l ρ1 _ _ [(.ref p, .va (Fz (.lst l)))] h1 (lst_it hK) (fun v r m => by rcases List.mem_cons.mp m with e | m; cases e; exact ⟨_, rfl⟩; cases m) ⟨O, S1⟩)
    · have rp : Rp c.K H1 (c.av O) (.tup l) x := S1.tm.1
      obtain ⟨p, vs, rfl, ha, rr⟩ := rp.top.tup
      cases rv
      rw [← hK] at ha
      exact it_tup I1 ha (q l ρ1 _ _ [(.ref p, .va (Fz (.tup l)))] h1 (tup_it hK) (fun v r m => by rcases List.mem_cons.mp m with e | m; cases e; exact ⟨_, rfl⟩; cases m) ⟨O, S1⟩)
def walkA (K : List D → En → Prop) (ρ : En) : D → Prop
  | .lst l => K l ρ
  | .tup l => K l ρ
  | _ => False
theorem e_iAny {K : List D → En → Prop} {Ee : Exn → En → Prop} : iAny Te ρ K Ee = Te ρ (fun r ρ' => oD (fzC ρ' r) fun p => walkA K p.2 p.1) Ee := by
  unfold iAny
  congr 1
  funext r ρ'
  cases fzC ρ' r with
  | none => rfl
  | some p => obtain ⟨d, ρ1⟩ := p; cases d <;> rfl
theorem walkA_lst {K : List D → En → Prop} {l : List D} : walkA K ρ (.lst l) = K l ρ := rfl
theorem walkA_tup {K : List D → En → Prop} {l : List D} : walkA K ρ (.tup l) = K l ρ := rfl

/-! ### methods that change an owned list of a slot -/
abbrev MuF := List D → List D → (D → List D → Prop) → Prop
def tMu (j : Nat) (f : MuF) (TA : TAp) : TEp := fun ρ R E => match ρ[j]? with
  | some (.at (.ow _)) => TA ρ (fun rs ρ1 => fzK ρ1 rs fun ds ρ2 => match ρ2[j]? with
    | some (.at (.ow l)) => f l ds fun res l' => R (.va (Fz res)) (ρ2.set j (Wl l'))
    | _ => False) E
  | _ => False
def MuOk (c : Cc) (f : MuF) (r : V → List V → Hp → VK → Prop) : Prop := ∀ (A : Av) (H : Hp) (p : Addr) (vs ws : List V) (l ds : List D) (Q : VK) (K0 : D → List D → Prop), H p = some (.lst vs) → Rps c.K H A l vs → Rps c.K H A ds ws → f l ds K0 →
  (∀ res l' w vs', K0 res l' → Rp c.K H A res w → Rps c.K H A l' vs' → Q w (upd H p (.lst vs'))) → r (.ref p) ws H Q
theorem Sim0.setOw {p : Addr} {l' : List D} {vs vs' : List V} {j : Nat} (S : Sim0 c H O ρ τ σ) (hs : σ[j]? = some (some (.ref p))) (ho : O p = some (.s j, none)) (hp : H p = some (.lst vs)) (r : Rps c.K H (c.av O) l' vs') : Sim0 c (upd H p (.lst vs')) O (ρ.set j (Wl l')) τ σ := by
  have ex := Ext.wr (c := c) (O := O) (o := .lst vs') hp True.intro ho
  obtain ⟨w1, w2, w3⟩ := S.wr (o := .lst vs') hp ho True.intro
  exact ⟨by rw [List.length_set]; exact S.len, w1, w2, w3, S.io, S.slots_set ex fun _ => ⟨_, hs, p, _, rfl, ho, upd_same, ex.rps r⟩, S.tm.mono ex (fun k m b _ z => by cases z.1) (fun w i f m x C dx vfs hx z => by rw [z.2, hp] at hx; rcases hx with hx | hx <;> cases hx)⟩
theorem mu_core {f : MuF} {r : V → List V → Hp → VK → Prop} {j : Nat} {rs : List R} {ws : List V} {v : V} {R0 : R → En → Prop} {Q : VK} (hm : MuOk c f r) (hv : σ[j]? = some (some v)) (hl : ws.length = rs.length) (S : Sim c ρ (tmps τ ws rs) σ H)
    (h : fzK ρ rs fun ds ρ2 => match ρ2[j]? with | some (.at (.ow l)) => f l ds fun res l' => R0 (.va (Fz res)) (ρ2.set j (Wl l')) | _ => False) (hQ : ∀ r ρ' v H', R0 r ρ' → Sim c ρ' ((v, r) :: τ) σ H' → Q v H') : tyV c.K "list" v H ∧ r v ws H Q := by
  obtain ⟨ds, ρ2, e1, h⟩ := h.of
  obtain ⟨O, S⟩ := S
  obtain ⟨O2, S2, r2, _⟩ := fzL_ok hl S e1
  split at h
  · rename_i l e2
    obtain ⟨u, e3, p, vs, rfl, ho, hp, rr⟩ := S2.sl j _ e2 (by intro z; cases z)
    rw [hv] at e3; cases e3
    refine ⟨.inl ⟨rfl, vs, SqL.of hp⟩, hm (c.av O2) H p vs ws l ds Q _ hp rr r2 h fun res l' w vs' h1 h2 h3 => ?_⟩
    have S3 := S2.setOw hv ho hp h3
    have ex := Ext.wr (c := c) (O := O2) (o := .lst vs') hp True.intro ho
    exact hQ _ _ _ _ h1 ⟨O2, S3.push (ct := Fz res) (ex.rp h2)⟩
  · exact h.elim
section
variable {x name : Str} {px apos : Pos} {id : String} {r : V → List V → Hp → VK → Prop} {f : MuF}
theorem p_mu (j : Nat) (pa : PlainAttrs "list") (slot : Slot "list" name id) (hty : typeOf (.builtin id) = pure (.type "method_descriptor")) (hm : MtR X id r) (ok : MuOk c f r) (ha : PAp c ek fl X (e :: es) TA) (hN : X.N[j]? = some x := by rfl) (hv : Vis X.env.scope x := by first | exact Or.inl rfl | exact Or.inr (Or.inl rfl) | exact Or.inr (Or.inr rfl)) (hd : (x == ("__debug__" : Str)) = false := by decide) (hcd : (x == ("__classdict__" : Str)) = false := by decide) (hK : X.K = c.K := by rfl)
    (hbase : attributeBase (.Name x px) name X.env (eval (.Name x px) X.env) = eval (.Name x px) X.env := by rfl)
    (hfew : ((backTo pos (starEach (e :: es) X.env)).all (fun x => !x.1) && (backToKw pos (keywordEach [] X.env)).all (fun x => x.1.isSome) && decide ((e :: es).length + ([] : List Keyword).length + (if ([] : List Keyword).isEmpty then 0 else 1) < 30)) = true := by rfl)
    (hline : (apos.endLine == pos.line) = true := by rfl) (hs : starEach (e :: es) X.env = (false, eval e X.env) :: starEach es X.env := by rfl) (hplain : (backTo pos (starEach es X.env)).any (·.1) = false := by rfl) :
    PEp c ek fl X (.Call (.Attribute (.Name x px) name apos) (e :: es) [] pos) (tMu j f TA) := by
  refine ⟨fun pins s σ H Q I h => ?_⟩
  obtain ⟨ρ, τ, R0, E0, S, hT, hQ, hE⟩ := h
  unfold tMu at hT
  split at hT
  · rename_i l0 e0
    obtain ⟨v, hv1, hty0⟩ : ∃ v, σ[j]? = some (some v) ∧ tyV X.K "list" v H := by
      obtain ⟨O, S0⟩ := S
      obtain ⟨u, e3, p, vs, rfl, ho, hp, rr⟩ := S0.sl j _ e0 (by intro z; cases z)
      exact ⟨_, e3, .inl ⟨rfl, vs, SqL.of hp⟩⟩
    refine (pe_bm pa slot hty hm (pe_var hN hv hd hcd) ha hbase hfew hline hs hplain).run pins s σ H Q I ⟨v, hv1, hty0, ρ, τ, _, E0, S, hT, fun rs ρ1 ws H1 h1 hl S1 => ?_, hE⟩
    exact (mu_core ok hv1 hl S1 h1 hQ).2
  · exact hT.elim
theorem p_mu0 (j : Nat) (pa : PlainAttrs "list") (slot : Slot "list" name id) (hty : typeOf (.builtin id) = pure (.type "method_descriptor")) (hm : MtR X id r) (ok : MuOk c f r) (hN : X.N[j]? = some x := by rfl) (hv : Vis X.env.scope x := by first | exact Or.inl rfl | exact Or.inr (Or.inl rfl) | exact Or.inr (Or.inr rfl)) (hd : (x == ("__debug__" : Str)) = false := by decide) (hcd : (x == ("__classdict__" : Str)) = false := by decide) (hK : X.K = c.K := by rfl)
    (hbase : attributeBase (.Name x px) name X.env (eval (.Name x px) X.env) = eval (.Name x px) X.env := by rfl) (hline : (apos.endLine == pos.line) = true := by rfl) :
    PEp c ek fl X (.Call (.Attribute (.Name x px) name apos) [] [] pos) (tMu j f tANil) := by
  refine ⟨fun pins s σ H Q I h => ?_⟩
  obtain ⟨ρ, τ, R0, E0, S, hT, hQ, hE⟩ := h
  unfold tMu at hT
  split at hT
  · rename_i l0 e0
    obtain ⟨v, hv1⟩ : ∃ v, σ[j]? = some (some v) := by
      obtain ⟨O, S0⟩ := S
      obtain ⟨u, e3, _⟩ := S0.sl j _ e0 (by intro z; cases z)
      exact ⟨_, e3⟩
    have hc := mu_core (rs := []) (ws := []) ok hv1 rfl S hT hQ
    rw [← hK] at hc
    exact (pe_bm0 pa slot hty hm (pe_var hN hv hd hcd) hbase hline).run pins s σ H Q I ⟨v, hv1, hc⟩
  · exact hT.elim
end
def fApp : MuF := fun l ds K => match ds with
  | [d] => l.length < sizeLine ∧ K .non (l ++ [d])
  | _ => False
theorem app_ok2 : MuOk c fApp rAppend := by
  intro A H p vs ws l ds Q K0 hp rl rd h hQ
  unfold fApp at h
  split at h
  · rename_i d
    obtain ⟨w, r, rfl, r1, r2⟩ := rd
    unfold Rps at r2; subst r2
    exact ⟨p, vs, w, rfl, rfl, hp, by rw [rl.length]; exact h.1, hQ _ _ _ _ h.2 Rp.ofNon (rl.app (.one r1))⟩
  · exact h.elim
def fExt : MuF := fun l ds K => match ds with
  | [.lst m] => l.length + m.length ≤ sizeLine ∧ K .non (l ++ m)
  | _ => False
theorem ext_ok2 : MuOk c fExt rExtend := by
  intro A H p vs ws l ds Q K0 hp rl rd h hQ
  unfold fExt at h
  split at h
  · rename_i m
    obtain ⟨w, r, rfl, r1, r2⟩ := rd
    unfold Rps at r2; subst r2
    obtain ⟨b, us, rfl, hb, rb⟩ := r1.top.lst
    exact ⟨p, b, vs, us, rfl, rfl, hp, hb, by rw [rl.length, rb.length]; exact h.1, hQ _ _ _ _ h.2 Rp.ofNon (rl.app rb)⟩
  · exact h.elim
def fPop : MuF := fun l ds K => match ds with
  | [] => match l[l.length - 1]? with
    | some d => K d l.dropLast
    | none => False
  | _ => False
theorem Rps.dropLast {K : PySem.W.Frag} {A : Av} {l : List D} {vs : List V} (h : Rps K H A l vs) : Rps K H A l.dropLast vs.dropLast := by
  rw [List.dropLast_eq_take, List.dropLast_eq_take, h.length]
  exact h.take _
theorem pop_ok2 : MuOk c fPop rPop := by
  intro A H p vs ws l ds Q K0 hp rl rd h hQ
  unfold fPop at h
  split at h
  · unfold Rps at rd; subst rd
    split at h
    · rename_i d e
      obtain ⟨w, e1, r1⟩ := rl.get e
      exact ⟨p, vs, w, rfl, rfl, hp, by rw [rl.length]; exact e1, hQ _ _ _ _ h r1 rl.dropLast⟩
    · exact h.elim
  · exact h.elim
def fIns : MuF := fun l ds K => match ds with
  | [.int i, d] => l.length < sizeLine ∧ (0 ≤ i ∧ i < 2 ^ 63) ∧ K .non (l.take i.toNat ++ [d] ++ l.drop i.toNat)
  | _ => False
theorem ins_ok2 : MuOk c fIns (fun x vs H Q => ∃ (l : Addr) (xs : List V) (i : Int) (y : V), x = .ref l ∧ vs = [.int i, y] ∧ H l = some (.lst xs) ∧ xs.length < sizeLine ∧ 0 ≤ i ∧ i < 2 ^ 63 ∧ Q .non (upd H l (.lst (xs.take i.toNat ++ [y] ++ xs.drop i.toNat)))) := by
  intro A H p vs ws l ds Q K0 hp rl rd h hQ
  unfold fIns at h
  split at h
  · rename_i i d
    obtain ⟨w1, r, rfl, r1, r2⟩ := rd
    obtain ⟨w2, r', rfl, r3, r4⟩ := r2
    unfold Rps at r4; subst r4
    exact ⟨p, vs, i, w2, rfl, by rw [r1.int], hp, by rw [rl.length]; exact h.1, h.2.1.1, h.2.1.2, hQ _ _ _ _ h.2.2 Rp.ofNon (((rl.take _).app (.one r3)).app (rl.drop _))⟩
  · exact h.elim
end
end Pm

namespace Pm
open PySem PySem.Spec PyProof.Rows L2
section
variable {c : Cc} {O O' : Ow} {H H' : Hp} {ρ ρ' : En} {τ τ' : List (V × R)} {σ σ' : St} {v : V} {ℓ ℓ' : Lab} {ct : Ct} {X : Cx} {ek : EK} {fl : Bool}
variable {a b e d0 : Expr} {rest : List Expr} {Ta Tb Tc Te : TEp} {TA' TB' TT' : TTp} {pos : Pos} {T U : TSp} {TA TB : TAp} {es : List Expr}

/-! ### slices -/
abbrev TOp := En → (Option Int → En → Prop) → (Exn → En → Prop) → Prop
def rdO (c : Cc) (ek : EK) (b : Bool) (T : TOp) : TO := fun σ H Q => ∃ ρ τ R0 E0, Sim c ρ τ σ H ∧ T ρ R0 E0 ∧ (∀ o ρ' H', R0 o ρ' → Sim c ρ' τ σ H' → Q o H') ∧ ek E0 σ ∧ (b = true → NoAlf τ)
abbrev POp (c : Cc) (ek : EK) (fl : Bool) (X : Cx) (e : Option Expr) (T : TOp) : Prop := PO X e (rdO c ek fl T)
def tONone : TOp := fun ρ R _ => R none ρ
def tOSome (Te : TEp) : TOp := fun ρ R E => Te ρ (fun r ρ1 => oD (vw ρ1 r) fun d => match d with | .int i => R (some i) ρ1 | _ => False) E
theorem o_none : POp c ek fl X none tONone := by
  refine ⟨fun pins s σ H Q I h => ?_⟩
  obtain ⟨ρ, τ, R0, E0, S, hT, hQ, hE⟩ := h
  exact po_none.run pins s σ H Q I (hQ _ _ _ hT S)
theorem oD.of {β : Type} {o : Option β} {k : β → Prop} (h : oD o k) : ∃ x, o = some x ∧ k x := by
  cases o with
  | none => exact h.elim
  | some x => exact ⟨x, rfl, h⟩
theorem o_some (he : PEp c ek fl X e Te) : POp c ek fl X (some e) (tOSome Te) := by
  refine ⟨fun pins s σ H Q I h => ?_⟩
  obtain ⟨ρ, τ, R0, E0, S, hT, hQ, hE⟩ := h
  refine (po_some he).run pins s σ H Q I ⟨ρ, τ, _, E0, S, hT, fun r ρ1 v H1 h1 S1 => ?_, hE⟩
  obtain ⟨d, e1, h2⟩ := h1.of
  obtain ⟨O, S1⟩ := S1
  split at h2
  · exact ⟨_, (S1.vw e1).int, hQ _ _ _ h2 ⟨O, S1.pop⟩⟩
  · exact h2.elim
def cutD (l : List D) (lo hi : Option Int) : List D := (l.drop (HT.sIx l.length 0 lo)).take (HT.sIx l.length l.length hi - HT.sIx l.length 0 lo)
theorem Rps.cut {K : PySem.W.Frag} {A : Av} {l : List D} {vs : List V} (h : Rps K H A l vs) (lo hi : Option Int) : Rps K H A (cutD l lo hi) (cutV vs lo hi) := by
  unfold cutD cutV
  rw [h.length]
  exact (h.drop _).take _
def slD (x : D) (lo hi : Option Int) (Q : Ct → Prop) : Prop := match x with
  | .lst l => Q (Wl (cutD l lo hi))
  | .tup l => Q (Fz (.tup (cutD l lo hi)))
  | .str z => z.length ≤ sizeLine ∧ Q (Fz (.str (cutS z lo hi)))
  | _ => False
theorem sl_all : SlR X (fun x lo hi H Q => rSlL X.K x lo hi H Q ∨ rSlA X.K x lo hi H Q ∨ rSlS x lo hi H Q) := sl_list.or (sl_tupA.or sl_str)
def tSlice (Te : TEp) (TL TU : TOp) : TEp := fun ρ R E => Te ρ (fun r ρ1 => nA r <| TL ρ1 (fun lo ρ2 => TU ρ2 (fun hi ρ3 => oD (vw ρ3 r) fun d => slD d lo hi fun ct => R (.va ct) ρ3) E) E) E
theorem p_slice {lo hi : Option Expr} {TL TU : TOp} {p2 : Pos} (he : PEp c ek fl X e Te) (hl : POp c ek fl X lo TL) (hu : POp c ek fl X hi TU) (hK : X.K = c.K := by rfl) : PEp c ek fl X (.Subscript e (.Slice lo hi none p2) pos) (tSlice Te TL TU) := by
  refine ⟨fun pins s σ H Q I h => ?_⟩
  obtain ⟨ρ, τ, R0, E0, S, hT, hQ, hE⟩ := h
  refine (pe_slice sl_all he hl hu).run pins s σ H Q I ⟨ρ, τ, _, E0, S, hT, fun r ρ1 v H1 h1 S1 => ?_, hE⟩
  obtain ⟨h1, n⟩ := h1.of
  have hE1 : ek E0 σ ∧ (fl = true → NoAlf ((v, r) :: τ)) := ⟨hE.1, fun z => n (hE.2 z)⟩
  refine ⟨ρ1, _, _, E0, S1, h1, fun o1 ρ2 H2 h2 S2 => ⟨ρ2, _, _, E0, S2, h2, fun o2 ρ3 H3 h3 S3 => ?_, hE1⟩, hE1⟩
  obtain ⟨d, e1, h4⟩ := h3.of
  obtain ⟨O, S3⟩ := S3
  have hv := S3.vw e1
  unfold slD at h4
  split at h4
  · obtain ⟨p, vs, rfl, q, rr⟩ := hv.lst
    exact .inl ⟨p, vs, rfl, SqL.of q, fun p' hp => hQ _ _ _ _ h4 (S3.pop.newLst hp (rr.cut o1 o2))⟩
  · obtain ⟨p, vs, rfl, q, rr⟩ := hv.tup
    refine .inr (.inl ⟨p, vs, rfl, by rw [hK]; exact q, fun z => ?_, fun _ p' hp => hQ _ _ _ _ h4 (S3.pop.newTup hp (rr.cut o1 o2))⟩)
    rename_i l
    refine hQ _ _ _ _ h4 ⟨O, S3.pop.push (ct := Fz (.tup (cutD l o1 o2))) ?_⟩
    rw [rr.length] at z
    have e2 : cutD l o1 o2 = l := by unfold cutD; rw [z.1, z.2, List.drop_zero, Nat.sub_zero, List.take_length]
    rw [e2]
    unfold COk FOk Rp; exact ⟨p, vs, rfl, q, rr⟩
  · exact .inr (.inr ⟨_, hv.str, h4.1, hQ _ _ _ _ h4.2 (Sim.pushFz ⟨O, S3.pop⟩ fun A => Rp.ofStr _)⟩)
  · exact h4.elim

/-! ### a < b < c, of ints -/
def cmpI : CmpOp → Option (Int → Int → Bool)
  | .Lt => some fun i j => decide (i < j)
  | .LtE => some fun i j => decide (i ≤ j)
  | .Gt => some fun i j => decide (j < i)
  | .GtE => some fun i j => decide (j ≤ i)
  | _ => none
theorem cmpI_ok {op : CmpOp} {f : Int → Int → Bool} (h : cmpI op = some f) : OpR X (compareOp op) (rI0 fun i j => .bl (f i j)) := by
  cases op <;> simp [cmpI] at h <;> subst h
  · exact op_lt
  · exact op_le
  · exact op_gt
  · exact op_ge
def intK (o : Option D) (k : Int → Prop) : Prop := match o with
  | some (.int i) => k i
  | _ => False
theorem intK.of {o : Option D} {k : Int → Prop} (h : intK o k) : ∃ i, o = some (.int i) ∧ k i := by
  unfold intK at h
  split at h
  · exact ⟨_, rfl, h⟩
  · exact h.elim
def tChainG (f g : Int → Int → Bool) (Ta Tb Tc : TEp) (ρ : En) (K : Bool → En → Prop) (E : Exn → En → Prop) : Prop := Ta ρ (fun ra ρ1 => nA ra <| Tb ρ1 (fun rb ρ2 => nA rb <| intK (vw ρ2 ra) fun i => intK (vw ρ2 rb) fun j => if f i j = true then Tc ρ2 (fun rc ρ3 => intK (vw ρ3 rc) fun k => K (g j k) ρ3) E else K false ρ2) E) E
def tChain (op op' : CmpOp) (Ta Tb Tc : TEp) : TEp := fun ρ R E => match cmpI op, cmpI op' with
  | some f, some g => tChainG f g Ta Tb Tc ρ (fun b ρ' => R (.va (Fz (.bl b))) ρ') E
  | _, _ => False
def tChainT (op op' : CmpOp) (Ta Tb Tc : TEp) : TTp := fun ρ R E => match cmpI op, cmpI op' with
  | some f, some g => tChainG f g Ta Tb Tc ρ R E
  | _, _ => False
theorem chain_rd {f g : Int → Int → Bool} {K : Bool → En → Prop} {E0 : Exn → En → Prop} {Q : Bool → Hp → Prop} (S : Sim c ρ τ σ H) (hT : tChainG f g Ta Tb Tc ρ K E0) (hQ : ∀ b ρ' H', K b ρ' → Sim c ρ' τ σ H' → Q b H') (hE : ek E0 σ ∧ (fl = true → NoAlf τ)) :
    L2.tChain (rI0 fun i j => .bl (f i j)) (rI0 fun i j => .bl (g i j)) (rd c ek fl Ta) (rd c ek fl Tb) (rd c ek fl Tc) σ H (fun x H' => ∃ k, x = .bl k ∧ Q k H') := by
  refine ⟨ρ, τ, _, E0, S, hT, fun ra ρ1 x H1 h1 S1 => ?_, hE⟩
  obtain ⟨h1, n1⟩ := h1.of
  refine ⟨ρ1, _, _, E0, S1, h1, fun rb ρ2 y H2 h2 S2 => ?_, hE.1, fun z => n1 (hE.2 z)⟩
  obtain ⟨h2, n2⟩ := h2.of
  obtain ⟨i, e1, h2⟩ := h2.of
  obtain ⟨j, e2, h2⟩ := h2.of
  obtain ⟨O, S2'⟩ := id S2
  obtain ⟨hx, hy⟩ := S2'.vw2 e1 e2
  refine ⟨i, j, hx.int, hy.int, f i j, rfl, ?_⟩
  by_cases hf : f i j = true
  · rw [if_pos hf] at h2 ⊢
    refine ⟨ρ2, _, _, E0, S2, h2, fun rc ρ3 z H3 h3 S3 => ?_, hE.1, fun z => n2 (n1 (hE.2 z))⟩
    obtain ⟨k, e3, h3⟩ := h3.of
    obtain ⟨O3, S3'⟩ := id S3
    exact ⟨j, k, hy.int, (S3'.vw e3).int, g j k, rfl, hQ _ _ _ h3 S3.pop.pop.pop⟩
  · rw [if_neg hf] at h2 ⊢
    exact ⟨false, rfl, hQ _ _ _ h2 S2.pop.pop⟩
theorem t_chain {op op' : CmpOp} (hu : X.A.units + 65 < cLine) (ha : PEp c ek fl X a Ta) (hb : PEp c ek fl X b Tb) (hc : PEp c ek fl X d0 Tc) (hm : lastMarks [op, op'] [b, d0] = false := by with_unfolding_all rfl) : PTp c ek fl X (.Compare a [op, op'] [b, d0] pos) (tChainT op op' Ta Tb Tc) := by
  refine ⟨fun pins s σ H Q I h => ?_⟩
  obtain ⟨ρ, τ, R0, E0, S, hT, hQ, hE⟩ := h
  unfold tChainT at hT
  split at hT
  · rename_i f g e1 e2
    exact (pt_chain (cmpI_ok e1) (cmpI_ok e2) ha hb hc hm).run pins s σ H Q I (chain_rd S hT hQ hE)
  · exact hT.elim
theorem p_chain {op op' : CmpOp} (hu : X.A.units + 65 < cLine) (ha : PEp c ek fl X a Ta) (hb : PEp c ek fl X b Tb) (hc : PEp c ek fl X d0 Tc) (hm : lastMarks [op, op'] [b, d0] = false := by with_unfolding_all rfl) : PEp c ek fl X (.Compare a [op, op'] [b, d0] pos) (tChain op op' Ta Tb Tc) := by
  refine ⟨fun pins s σ H Q I h => ?_⟩
  obtain ⟨ρ, τ, R0, E0, S, hT, hQ, hE⟩ := h
  unfold tChain at hT
  split at hT
  · rename_i f g e1 e2
    refine thn ((pe_chain (cmpI_ok e1) (cmpI_ok e2) ha hb hc hm).run pins s σ H (fun x H' => ∃ k, x = .bl k ∧ Q (.bl k) H') I (chain_rd (Q := fun b H' => Q (.bl b) H') S hT (fun b ρ' H' h1 S1 => hQ _ _ _ _ h1 (S1.pushFz fun A => Rp.ofBl b)) hE)) fun u s1 ⟨x, H1, I1, r1, k, e3, q⟩ => ?_
    subst e3
    exact ⟨_, H1, I1, r1, q⟩
  · exact hT.elim

/-! ### sum, all, any of a list -/
def ints? : List D → Option (List Int)
  | [] => some []
  | .int i :: l => (ints? l).map (i :: ·)
  | _ :: _ => none
def bls? : List D → Option (List Bool)
  | [] => some []
  | .bl i :: l => (bls? l).map (i :: ·)
  | _ :: _ => none
theorem ints_of {K : PySem.W.Frag} {A : Av} : ∀ {l : List D} {vs : List V} {ns : List Int}, Rps K H A l vs → ints? l = some ns → vs = ns.map V.int
  | [], vs, ns, h, e => by unfold Rps at h; subst h; cases e; rfl
  | d :: l, vs, ns, h, e => by
    obtain ⟨v, r, rfl, h1, h2⟩ := h
    cases d with
    | int i =>
      unfold ints? at e
      cases q : ints? l with
      | none => rw [q] at e; cases e
      | some ms =>
        rw [q] at e; cases e
        rw [h1.int, ints_of h2 q]; rfl
    | _ => unfold ints? at e; cases e
theorem bls_of {K : PySem.W.Frag} {A : Av} : ∀ {l : List D} {vs : List V} {ns : List Bool}, Rps K H A l vs → bls? l = some ns → vs = ns.map V.bl
  | [], vs, ns, h, e => by unfold Rps at h; subst h; cases e; rfl
  | d :: l, vs, ns, h, e => by
    obtain ⟨v, r, rfl, h1, h2⟩ := h
    cases d with
    | bl i =>
      unfold bls? at e
      cases q : bls? l with
      | none => rw [q] at e; cases e
      | some ms =>
        rw [q] at e; cases e
        rw [h1.top.bl, bls_of h2 q]; rfl
    | _ => unfold bls? at e; cases e
theorem ints_map : ∀ ns : List Int, ints? (ns.map .int) = some ns
  | [] => rfl
  | n :: ns => by show (ints? (ns.map .int)).map (n :: ·) = _; rw [ints_map ns]; rfl
theorem bls_map : ∀ ns : List Bool, bls? (ns.map .bl) = some ns
  | [] => rfl
  | n :: ns => by show (bls? (ns.map .bl)).map (n :: ·) = _; rw [bls_map ns]; rfl
def fSum (d : D) (Q : D → Prop) : Prop := match d with
  | .lst l => oD (ints? l) fun ns => Q (.int ns.sum)
  | _ => False
def fAll (d : D) (Q : D → Prop) : Prop := match d with
  | .lst l => oD (bls? l) fun ns => Q (.bl (ns.all id))
  | _ => False
def fAny (d : D) (Q : D → Prop) : Prop := match d with
  | .lst l => oD (bls? l) fun ns => Q (.bl (ns.any id))
  | _ => False
theorem sum_ok (hK : X.K = c.K) : CbOk c (rSum X.K) (cD1 fSum) := cD1_ok fun A H v d Q R0 hv hf hQ => by
  unfold fSum at hf
  split at hf
  · obtain ⟨ns, e, hf⟩ := hf.of
    obtain ⟨p, vs, rfl, q, r⟩ := hv.lst
    exact ⟨p, ns, rfl, by rw [← ints_of r e]; exact SqL.of q, hQ _ _ hf (Pl.int _)⟩
  · exact hf.elim
theorem all_ok (hK : X.K = c.K) : CbOk c (rAll X.K) (cD1 fAll) := cD1_ok fun A H v d Q R0 hv hf hQ => by
  unfold fAll at hf
  split at hf
  · obtain ⟨ns, e, hf⟩ := hf.of
    obtain ⟨p, vs, rfl, q, r⟩ := hv.lst
    exact ⟨p, ns, rfl, by rw [← bls_of r e]; exact SqL.of q, hQ _ _ hf (Pl.bl _)⟩
  · exact hf.elim
theorem any_ok (hK : X.K = c.K) : CbOk c (rAny X.K) (cD1 fAny) := cD1_ok fun A H v d Q R0 hv hf hQ => by
  unfold fAny at hf
  split at hf
  · obtain ⟨ns, e, hf⟩ := hf.of
    obtain ⟨p, vs, rfl, q, r⟩ := hv.lst
    exact ⟨p, ns, rfl, by rw [← bls_of r e]; exact SqL.of q, hQ _ _ hf (Pl.bl _)⟩
  · exact hf.elim

/-! ### their equations -/
variable {Rr : R → En → Prop} {Ee : Exn → En → Prop} {E : Ep} {TL TU : TOp} {Tr : Bool → En → Prop} {l : List D} {d : D}
theorem e_oNone {K : Option Int → En → Prop} : tONone ρ K Ee = K none ρ := rfl
def oiK (K : Option Int → En → Prop) (ρ : En) : D → Prop
  | .int i => K (some i) ρ
  | _ => False
theorem e_oSome {K : Option Int → En → Prop} : tOSome Te ρ K Ee = Te ρ (fun r ρ1 => oD (vw ρ1 r) (oiK K ρ1)) Ee := by
  have hk : ∀ (K : Option Int → En → Prop) (ρ1 : En), (fun d : D => match d with | .int i => K (some i) ρ1 | _ => False) = oiK K ρ1 := fun K ρ1 => by
    funext d
    cases d <;> rfl
  show Te ρ (fun r ρ1 => oD (vw ρ1 r) fun d => match d with | .int i => K (some i) ρ1 | _ => False) Ee = _
  have e : (fun (r : R) (ρ1 : En) => oD (vw ρ1 r) fun d : D => match d with | .int i => K (some i) ρ1 | _ => False) = fun r ρ1 => oD (vw ρ1 r) (oiK K ρ1) := by
    funext r ρ1
    rw [← hk K ρ1]
  exact congrArg (fun z => Te ρ z Ee) e
theorem oiK_int {K : Option Int → En → Prop} {i : Int} : oiK K ρ (.int i) = K (some i) ρ := rfl
theorem e_slice : tSlice Te TL TU ρ Rr Ee = Te ρ (fun r ρ1 => nA r (TL ρ1 (fun lo ρ2 => TU ρ2 (fun hi ρ3 => oD (vw ρ3 r) fun d => slD d lo hi fun ct => Rr (.va ct) ρ3) Ee) Ee)) Ee := rfl
theorem sl_lstD {lo hi : Option Int} {Q : Ct → Prop} : slD (.lst l) lo hi Q = Q (Wl (cutD l lo hi)) := rfl
theorem sl_tupD {lo hi : Option Int} {Q : Ct → Prop} : slD (.tup l) lo hi Q = Q (Fz (.tup (cutD l lo hi))) := rfl
theorem sl_strD {lo hi : Option Int} {z : Str} {Q : Ct → Prop} : slD (.str z) lo hi Q = (z.length ≤ sizeLine ∧ Q (Fz (.str (cutS z lo hi)))) := rfl
theorem intK_int {i : Int} {k : Int → Prop} : intK (some (.int i)) k = k i := rfl
theorem e_chG {f g : Int → Int → Bool} : tChainG f g Ta Tb Tc ρ Tr Ee = Ta ρ (fun ra ρ1 => nA ra (Tb ρ1 (fun rb ρ2 => nA rb (intK (vw ρ2 ra) fun i => intK (vw ρ2 rb) fun j => if f i j = true then Tc ρ2 (fun rc ρ3 => intK (vw ρ3 rc) fun k => Tr (g j k) ρ3) Ee else Tr false ρ2)) Ee)) Ee := rfl
theorem e_chT_le_lt : tChainT .LtE .Lt Ta Tb Tc ρ Tr Ee = tChainG (fun i j => decide (i ≤ j)) (fun i j => decide (i < j)) Ta Tb Tc ρ Tr Ee := rfl
theorem e_chT_lt_le : tChainT .Lt .LtE Ta Tb Tc ρ Tr Ee = tChainG (fun i j => decide (i < j)) (fun i j => decide (i ≤ j)) Ta Tb Tc ρ Tr Ee := rfl
theorem e_chT_le_le : tChainT .LtE .LtE Ta Tb Tc ρ Tr Ee = tChainG (fun i j => decide (i ≤ j)) (fun i j => decide (i ≤ j)) Ta Tb Tc ρ Tr Ee := rfl
theorem e_chT_lt_lt : tChainT .Lt .Lt Ta Tb Tc ρ Tr Ee = tChainG (fun i j => decide (i < j)) (fun i j => decide (i < j)) Ta Tb Tc ρ Tr Ee := rfl
theorem e_ch_le_lt : tChain .LtE .Lt Ta Tb Tc ρ Rr Ee = tChainG (fun i j => decide (i ≤ j)) (fun i j => decide (i < j)) Ta Tb Tc ρ (fun b ρ' => Rr (.va (Fz (.bl b))) ρ') Ee := rfl
theorem e_ch_lt_le : tChain .Lt .LtE Ta Tb Tc ρ Rr Ee = tChainG (fun i j => decide (i < j)) (fun i j => decide (i ≤ j)) Ta Tb Tc ρ (fun b ρ' => Rr (.va (Fz (.bl b))) ρ') Ee := rfl
theorem e_ch_le_le : tChain .LtE .LtE Ta Tb Tc ρ Rr Ee = tChainG (fun i j => decide (i ≤ j)) (fun i j => decide (i ≤ j)) Ta Tb Tc ρ (fun b ρ' => Rr (.va (Fz (.bl b))) ρ') Ee := rfl
theorem e_ch_lt_lt : tChain .Lt .Lt Ta Tb Tc ρ Rr Ee = tChainG (fun i j => decide (i < j)) (fun i j => decide (i < j)) Ta Tb Tc ρ (fun b ρ' => Rr (.va (Fz (.bl b))) ρ') Ee := rfl
theorem f_sum {Q : D → Prop} : fSum (.lst l) Q = oD (ints? l) fun ns => Q (.int ns.sum) := rfl
theorem f_all {Q : D → Prop} : fAll (.lst l) Q = oD (bls? l) fun ns => Q (.bl (ns.all id)) := rfl
theorem f_any {Q : D → Prop} : fAny (.lst l) Q = oD (bls? l) fun ns => Q (.bl (ns.any id)) := rfl
def muK (j : Nat) (f : MuF) (ds : List D) (Rr : R → En → Prop) (ρ : En) : Option Ct → Prop
  | some (.at (.ow l)) => f l ds fun res l' => Rr (.va (Fz res)) (ρ.set j (Wl l'))
  | _ => False
def muN (j : Nat) (f : MuF) (TA : TAp) (Rr : R → En → Prop) (Ee : Exn → En → Prop) (ρ : En) : Option Ct → Prop
  | some (.at (.ow _)) => TA ρ (fun rs ρ1 => fzK ρ1 rs fun ds ρ2 => muK j f ds Rr ρ2 ρ2[j]?) Ee
  | _ => False
theorem e_mu {j : Nat} {f : MuF} : tMu j f TA ρ Rr Ee = muN j f TA Rr Ee ρ ρ[j]? := by
  unfold tMu muN
  cases ρ[j]? with
  | none => rfl
  | some ct =>
    cases ct with
    | «at» g =>
      cases g with
      | ow l =>
        show TA ρ _ Ee = TA ρ _ Ee
        have hk : ∀ (ds : List D) (ρ2 : En), (match ρ2[j]? with | some (.at (.ow l)) => f l ds fun res l' => Rr (.va (Fz res)) (ρ2.set j (Wl l')) | _ => False) = muK j f ds Rr ρ2 ρ2[j]? := fun ds ρ2 => by
          cases ρ2[j]? with
          | none => rfl
          | some ct =>
            cases ct with
            | «at» g => cases g <;> rfl
            | _ => rfl
        first
          | (congr 1; done)
          | (congr 1; funext rs ρ1; congr 1; done)
          | (congr 1; funext rs ρ1; congr 1; funext ds ρ2; exact hk ds ρ2)
      | _ => rfl
    | _ => rfl
theorem muN_ow {j : Nat} {f : MuF} : muN j f TA Rr Ee ρ (some (.at (.ow l))) = TA ρ (fun rs ρ1 => fzK ρ1 rs fun ds ρ2 => muK j f ds Rr ρ2 ρ2[j]?) Ee := rfl
theorem muK_ow {j : Nat} {f : MuF} {ds : List D} : muK j f ds Rr ρ (some (.at (.ow l))) = f l ds fun res l' => Rr (.va (Fz res)) (ρ.set j (Wl l')) := rfl
theorem f_app {K : D → List D → Prop} : fApp l [d] K = (l.length < sizeLine ∧ K .non (l ++ [d])) := rfl
theorem f_ext {m : List D} {K : D → List D → Prop} : fExt l [.lst m] K = (l.length + m.length ≤ sizeLine ∧ K .non (l ++ m)) := rfl
theorem f_pop {K : D → List D → Prop} : fPop l [] K = oD l[l.length - 1]? fun d => K d l.dropLast := by
  show (match l[l.length - 1]? with | some d => K d l.dropLast | none => False) = _
  cases l[l.length - 1]? <;> rfl
theorem f_ins {i : Int} {K : D → List D → Prop} : fIns l [.int i, d] K = (l.length < sizeLine ∧ (0 ≤ i ∧ i < 2 ^ 63) ∧ K .non (l.take i.toNat ++ [d] ++ l.drop i.toNat)) := rfl
end
end Pm

namespace Pm
open PySem PySem.Spec PyProof.Rows L2
section
variable {c : Cc} {O O' : Ow} {H H' : Hp} {ρ ρ' : En} {τ τ' : List (V × R)} {σ σ' : St} {v : V} {ℓ ℓ' : Lab} {ct : Ct} {X : Cx} {ek : EK} {fl : Bool}
variable {a b e d0 : Expr} {rest : List Expr} {Ta Tb Tc Te : TEp} {TA' TB' TT' : TTp} {pos : Pos} {T U : TSp} {TA TB : TAp} {es : List Expr}
/-! ### constants of the module -/
theorem rp_const {K : PySem.W.Frag} {U : Addr} {od : Option Addr} {its : Array Value} {n : Nat} {sl : Array (Option Value)} {l : List D} {vs : List V} (h : K.lookup U = some ⟨.type "tuple", od, .seq its n, sl⟩) (hv : Vals vs its.toList) (hz : its.size ≤ sizeLine) (hd : ∀ H A, Rps K H A l vs) : ∀ H A, Rp K H A (.tup l) (.ref U) := by
  intro H A
  unfold Rp
  exact ⟨U, vs, rfl, .inr ⟨_, its, n, h, rfl, rfl, hz, hv⟩, hd H A⟩
theorem p_const {x : Str} {d : D} (C : ∃ (v : V) (u : Value), X.mg x = some u ∧ RelV v u ∧ ∀ H A, Rp c.K H A d v) (hg : Gl X x := by rfl) (hdb : (x == ("__debug__" : Str)) = false := by decide) : PEp c ek fl X (.Name x pos) (tK d) := by
  obtain ⟨v, u, h1, h2, h3⟩ := C
  exact p_glob hg h1 h2 h3 hdb
theorem sw_or {elt : Expr} {gs : List Comprehension} {scope : Scope} {pos py : Pos} {y : Str} {l : Nat} {env : Env} : swapsWith (.ListComp elt gs scope pos) (some (.Name y py)) l env = pure true ∨ swapsWith (.ListComp elt gs scope pos) (some (.Name y py)) l env = pure false := by
  unfold swapsWith
  simp only [Expr.pos]
  generalize (env.blockKind == .function && env.kindOf y == some .local && py.line == pos.line && !(scope.names.any fun (n, k) => n == y && (k == .local || k == .cell))) = b
  cases b
  · exact .inr rfl
  · exact .inl rfl
theorem s_setLcB (j : Nat) {scope : Scope} {tg iter elt : Expr} {ifs : List Expr} {TI : TIp'} {g : Tg} {tt : TTp} {own : List (Str × Nat)} {y : Str} {py spos : Pos} (hc : X.calm = true) (hN : X.N.Nodup) (hj : j ∉ c.lock) (hi : PIp' c ek0 true X tg iter TI) (ok : BlkOk X.N X.env.scope scope own) (hown : ∀ i ∈ own.map (·.2), c.nb ≤ i) (hlk : ∀ i ∈ own.map (·.2), i ∉ c.lock) (hsl : ∀ i ∈ g.sl, i ∈ own.map (·.2))
    (hg : ∀ (s : Shared) (H : Hp) (C : Addr) (cl : List (Str × Addr)) (fp : List Addr), PGp c (X.blk s H scope (compEnvC scope cl C X.env) fp) tg g) (ht : ∀ (s : Shared) (H : Hp) (C : Addr) (cl : List (Str × Addr)) (fp : List Addr), PTsp c ek0 true (X.blk s H scope (compEnvC scope cl C X.env) fp) ifs tt)
    (he : ∀ (s : Shared) (H : Hp) (C : Addr) (cl : List (Str × Addr)) (fp : List Addr), PEp c ek0 true (X.blk s H scope (compEnvC scope cl C X.env) fp) elt Te) (hy : X.N[j]? = some y := by rfl) (hyl : X.env.scope.names.lookup y = some .local := by rfl) (hs : ∀ x, foldedSetIterable iter X.env x = pure x := by intro _; rfl) :
    PSp c ek0 X (.Assign [.Name y py] (.ListComp elt [⟨tg, iter, ifs, 0⟩] scope pos) spos) (sSet j (tLc' TI g tt Te (own.map (·.2)))) := by
  rcases sw_or (elt := elt) (gs := [⟨tg, iter, ifs, 0⟩]) (scope := scope) (pos := pos) (py := py) (y := y) (l := spos.line) (env := X.env) with h | h
  · exact s_setLc j hc hN hj hi ok hown hlk hsl hg ht he hy hyl h hs
  · exact s_set j hN (p_lc hc hN hi ok hown hlk hsl hg ht he hs) hj hy (.inl hyl) h (.inr hyl)
end
theorem true_false_F : (true = false) = False := eq_false (by decide)
theorem eqD_bl {a b : Bool} : eqD (.bl a) (.bl b) = (a == b) := by unfold eqD; rfl
theorem c_eqB {a b : Bool} {Q : Bool → Prop} : opC .Eq (.bl a) (.bl b) Q = Q (a == b) := by
  have e : opC .Eq (.bl a) (.bl b) Q = (shp (.bl a) ∧ shp (.bl b) ∧ Q (eqD (.bl a) (.bl b))) := rfl
  rw [e, eqD_bl]
  exact propext ⟨fun h => h.2.2, fun h => ⟨rfl, rfl, h⟩⟩
theorem c_neB {a b : Bool} {Q : Bool → Prop} : opC .NotEq (.bl a) (.bl b) Q = Q (!(a == b)) := by
  have e : opC .NotEq (.bl a) (.bl b) Q = (shp (.bl a) ∧ shp (.bl b) ∧ Q (!eqD (.bl a) (.bl b))) := rfl
  rw [e, eqD_bl]
  exact propext ⟨fun h => h.2.2, fun h => ⟨rfl, rfl, h⟩⟩
end Pm

namespace Pm
open PySem PySem.Spec PyProof.Rows L2
/-! ### loops, by what stays true -/
theorem for_ind {α : Type} {f : α → D} {g : Tg} {T : TSp} {E : Ep} (I : List α → En → Prop) (step : ∀ (a : α) (l : List α) (ρ : En) (K : En → Prop), I (a :: l) ρ → (∀ ρ', I l ρ' → K ρ') → oD (tgK g (f a) ρ) fun ρ2 => T ρ2 (E.lp K)) (fin : ∀ ρ, I [] ρ → E.nx ρ) :
    ∀ (l : List α) (ρ : En), I l ρ → forK g T (l.map f) ρ E
  | [], ρ, h => by rw [List.map_nil, for_nil]; exact fin ρ h
  | a :: l, ρ, h => by
    rw [List.map_cons, for_cons]
    exact step a l ρ _ h fun ρ' h' => for_ind I step fin l ρ' h'
theorem lc_ind {α : Type} {f : α → D} {g : Tg} {t : TTp} {Te : TEp} {own : List Nat} {Ee : Exn → En → Prop} {Rr : R → En → Prop} (I : List α → List D → En → Prop)
    (step : ∀ (a : α) (l : List α) (acc : List D) (ρ : En) (K : List D → En → Prop), I (a :: l) acc ρ → (∀ acc' ρ', I l acc' ρ' → K acc' ρ') → oD (tgK g (f a) (wipeE ρ own)) fun ρ2 => t ρ2 (fun b ρ3 => if b = true then Te ρ3 (fun r ρ4 => oD (fzC ρ4 r) fun p => acc.length < sizeLine ∧ K (acc ++ [p.1]) (wipeE p.2 own)) Ee else K acc (wipeE ρ3 own)) Ee)
    (fin : ∀ acc ρ, I [] acc ρ → Rr (.va (Wl acc)) ρ) :
    ∀ (l : List α) (acc : List D) (ρ : En), I l acc ρ → lcK g t Te own Ee Rr (l.map f) acc ρ
  | [], acc, ρ, h => by rw [List.map_nil, lc_nil]; exact fin acc ρ h
  | a :: l, acc, ρ, h => by
    rw [List.map_cons, lc_cons]
    exact step a l acc ρ _ h fun acc' ρ' h' => lc_ind I step fin l acc' ρ' h'
theorem for_rng' {g : Tg} {T : TSp} {E : Ep} {lo : Int} (n : Nat) (I : Nat → En → Prop) (step : ∀ (k : Nat) (ρ : En) (K : En → Prop), k < n → I k ρ → (∀ ρ', I (k + 1) ρ' → K ρ') → oD (tgK g (.int (lo + k)) ρ) fun ρ2 => T ρ2 (E.lp K)) (fin : ∀ ρ, I n ρ → E.nx ρ) :
    ∀ (j k : Nat) (ρ : En), k + j = n → I k ρ → forK g T ((List.range' k j).map fun k : Nat => D.int (lo + k)) ρ E
  | 0, k, ρ, e, h => by
    rw [show List.range' k 0 = [] from rfl, List.map_nil, for_nil]
    have : k = n := by omega
    subst this
    exact fin ρ h
  | j + 1, k, ρ, e, h => by
    rw [List.range'_succ, List.map_cons, for_cons]
    exact step k ρ _ (by omega) h fun ρ' h' => for_rng' n I step fin j (k + 1) ρ' (by omega) h'
theorem for_rng {g : Tg} {T : TSp} {E : Ep} {lo : Int} {n : Nat} {ρ : En} (I : Nat → En → Prop) (h0 : I 0 ρ) (step : ∀ (k : Nat) (ρ : En) (K : En → Prop), k < n → I k ρ → (∀ ρ', I (k + 1) ρ' → K ρ') → oD (tgK g (.int (lo + k)) ρ) fun ρ2 => T ρ2 (E.lp K)) (fin : ∀ ρ, I n ρ → E.nx ρ) :
    forK g T (rngD lo n) ρ E := by
  show forK g T ((List.range n).map fun k : Nat => D.int (lo + k)) ρ E
  rw [List.range_eq_range']
  exact for_rng' n I step fin n 0 ρ (by omega) h0
theorem lc_rng' {g : Tg} {t : TTp} {Te : TEp} {own : List Nat} {Ee : Exn → En → Prop} {Rr : R → En → Prop} {lo : Int} (n : Nat) (I : Nat → List D → En → Prop)
    (step : ∀ (k : Nat) (acc : List D) (ρ : En) (K : List D → En → Prop), k < n → I k acc ρ → (∀ acc' ρ', I (k + 1) acc' ρ' → K acc' ρ') → oD (tgK g (.int (lo + k)) (wipeE ρ own)) fun ρ2 => t ρ2 (fun b ρ3 => if b = true then Te ρ3 (fun r ρ4 => oD (fzC ρ4 r) fun p => acc.length < sizeLine ∧ K (acc ++ [p.1]) (wipeE p.2 own)) Ee else K acc (wipeE ρ3 own)) Ee)
    (fin : ∀ acc ρ, I n acc ρ → Rr (.va (Wl acc)) ρ) :
    ∀ (j k : Nat) (acc : List D) (ρ : En), k + j = n → I k acc ρ → lcK g t Te own Ee Rr ((List.range' k j).map fun k : Nat => D.int (lo + k)) acc ρ
  | 0, k, acc, ρ, e, h => by
    rw [show List.range' k 0 = [] from rfl, List.map_nil, lc_nil]
    have : k = n := by omega
    subst this
    exact fin acc ρ h
  | j + 1, k, acc, ρ, e, h => by
    rw [List.range'_succ, List.map_cons, lc_cons]
    exact step k acc ρ _ (by omega) h fun acc' ρ' h' => lc_rng' n I step fin j (k + 1) acc' ρ' (by omega) h'
theorem lc_rng {g : Tg} {t : TTp} {Te : TEp} {own : List Nat} {Ee : Exn → En → Prop} {Rr : R → En → Prop} {lo : Int} {n : Nat} {acc : List D} {ρ : En} (I : Nat → List D → En → Prop) (h0 : I 0 acc ρ)
    (step : ∀ (k : Nat) (acc : List D) (ρ : En) (K : List D → En → Prop), k < n → I k acc ρ → (∀ acc' ρ', I (k + 1) acc' ρ' → K acc' ρ') → oD (tgK g (.int (lo + k)) (wipeE ρ own)) fun ρ2 => t ρ2 (fun b ρ3 => if b = true then Te ρ3 (fun r ρ4 => oD (fzC ρ4 r) fun p => acc.length < sizeLine ∧ K (acc ++ [p.1]) (wipeE p.2 own)) Ee else K acc (wipeE ρ3 own)) Ee)
    (fin : ∀ acc ρ, I n acc ρ → Rr (.va (Wl acc)) ρ) : lcK g t Te own Ee Rr (rngD lo n) acc ρ := by
  show lcK g t Te own Ee Rr ((List.range n).map fun k : Nat => D.int (lo + k)) acc ρ
  rw [List.range_eq_range']
  exact lc_rng' n I step fin n 0 acc ρ (by omega) h0
theorem lc_pure {α : Type} {f : α → D} {g : Tg} {t : TTp} {Te : TEp} {own : List Nat} {Ee : Exn → En → Prop} {Rr : R → En → Prop} (h : α → List D) (ρ : En) (P : α → Prop)
    (step : ∀ (a : α) (acc : List D) (K : List D → En → Prop), P a → acc.length < sizeLine → K (acc ++ h a) ρ → oD (tgK g (f a) (wipeE ρ own)) fun ρ2 => t ρ2 (fun b ρ3 => if b = true then Te ρ3 (fun r ρ4 => oD (fzC ρ4 r) fun p => acc.length < sizeLine ∧ K (acc ++ [p.1]) (wipeE p.2 own)) Ee else K acc (wipeE ρ3 own)) Ee)
    (h1 : ∀ a, (h a).length ≤ 1) :
    ∀ (l : List α) (acc : List D), (∀ a ∈ l, P a) → acc.length + l.length ≤ sizeLine → Rr (.va (Wl (acc ++ l.flatMap h))) ρ → lcK g t Te own Ee Rr (l.map f) acc ρ
  | [], acc, _, _, q => by rw [List.map_nil, lc_nil]; simpa using q
  | a :: l, acc, hP, hl, q => by
    rw [List.map_cons, lc_cons]
    rw [List.length_cons] at hl
    refine step a acc _ (hP a List.mem_cons_self) (by omega) (lc_pure h ρ P step h1 l (acc ++ h a) (fun x hx => hP x (List.mem_cons_of_mem _ hx)) ?_ ?_)
    · have := h1 a
      rw [List.length_append]; omega
    · rw [List.append_assoc]; exact q
theorem flat1 {α β : Type} {f : α → β} : ∀ l : List α, l.flatMap (fun x => [f x]) = l.map f
  | [] => rfl
  | a :: l => by rw [List.flatMap_cons, flat1 l]; rfl
theorem rngD_map (lo : Int) (n : Nat) : rngD lo n = (List.range n).map fun k : Nat => D.int (lo + k) := rfl
end Pm

namespace Pm
open PySem PySem.Spec PyProof.Rows L2
section
variable {c : Cc} {O O' : Ow} {H H' : Hp} {ρ ρ' : En} {τ τ' : List (V × R)} {σ σ' : St} {v : V} {ℓ ℓ' : Lab} {ct : Ct} {X : Cx} {ek : EK} {fl : Bool}
variable {a b e d0 : Expr} {rest : List Expr} {Ta Tb Tc Te : TEp} {TA' TB' TT' : TTp} {pos : Pos} {T U : TSp} {TA TB : TAp} {es : List Expr}
/-! ### a comprehension over an owned list that stays owned -/
def owAt (ρ : En) (j : Nat) : Option (List D) := match ρ[j]? with
  | some (.at (.ow l)) => some l
  | _ => none
theorem owAt_of {l : List D} {j : Nat} (h : owAt ρ j = some l) : ρ[j]? = some (Wl l) := by
  unfold owAt at h
  split at h
  · rename_i l' e; cases h; exact e
  · cases h
def lcO (j : Nat) (l : List D) (g : Tg) (tt : TTp) (te : TEp) (own : List Nat) (E : Exn → En → Prop) (R : R → En → Prop) : List D → List D → En → Prop
  | [], acc, ρ => owAt ρ j = some l ∧ R (.va (Wl acc)) ρ
  | d :: ds, acc, ρ => owAt ρ j = some l ∧ oD (tgK g d (wipeE ρ own)) fun ρ2 => tt ρ2 (fun b ρ3 => if b = true then te ρ3 (fun r ρ4 => oD (fzC ρ4 r) fun p => acc.length < sizeLine ∧ lcO j l g tt te own E R ds (acc ++ [p.1]) (wipeE p.2 own)) E else lcO j l g tt te own E R ds acc (wipeE ρ3 own)) E
def tLcO (j : Nat) (g : Tg) (tt : TTp) (te : TEp) (own : List Nat) : TEp := fun ρ R E => oD (owAt ρ j) fun l => lcO j l g tt te own E R l [] (wipeE ρ own)
def rdIO (c : Cc) (K : PySem.W.Frag) (j : Nat) : TI := fun σ H R => ∃ ρ τ l a, Sim c ρ τ σ H ∧ owAt ρ j = some l ∧ σ[j]? = some (some (.ref a)) ∧ R (Itl K a) H
theorem Sim0.owned {l : List D} {j : Nat} {p : Addr} (S : Sim0 c H O ρ τ σ) (h : owAt ρ j = some l) (e : σ[j]? = some (some (.ref p))) : ∃ vs, H p = some (.lst vs) ∧ Rps c.K H (c.av O) l vs := by
  obtain ⟨v, e1, q⟩ := S.sl j _ (owAt_of h) (by intro z; cases z)
  rw [e] at e1; cases e1
  obtain ⟨a', vs, e2, o, ha, rr⟩ := q
  cases e2
  exact ⟨vs, ha, rr⟩
theorem i_own {tg : Expr} (j : Nat) {x : Str} (hN : X.N[j]? = some x := by rfl) (hv : Vis X.env.scope x := by first | exact Or.inl rfl | exact Or.inr (Or.inl rfl) | exact Or.inr (Or.inr rfl)) (hd : (x == ("__debug__" : Str)) = false := by decide)
    (hcd : (x == ("__classdict__" : Str)) = false := by decide) : PI X tg (.Name x pos) (rdIO c X.K j) := by
  refine ⟨fun pins s σ H Q I h => ?_⟩
  obtain ⟨ρ, τ, l, a, S, ho, e, hQ⟩ := h
  refine thn ((pe_var hN hv hd hcd).run pins s σ H (fun v H1 => v = .ref a ∧ H1 = H) I ⟨_, e, rfl, rfl⟩) fun v s1 ⟨x, H1, I1, rv, e1, e2⟩ => ?_
  subst e1 e2
  cases rv
  obtain ⟨O, S⟩ := S
  obtain ⟨vs, ha, _⟩ := S.owned ho e
  exact it_lst I1 (SqL.of ha) hQ
theorem lc_rdO {j : Nat} {g : Tg} {tt : TTp} {te : TEp} {own : List Nat} {Q : VK} {K : PySem.W.Frag} (hj : j < c.nb) (hown : ∀ i ∈ own, c.nb ≤ i) (hlk : ∀ i ∈ own, i ∉ c.lock) (hg : ∀ i ∈ g.sl, i ∈ own) (hek : ∀ E0 σ σ', ek E0 σ → ek E0 σ')
    (h : rd c ek fl (tLcO j g tt te own) σ H Q) : tLc (rdIO c K j) (rdG c g) (rdT c ek fl tt) (rd c ek fl te) own σ H Q := by
  obtain ⟨ρ, τ, R0, E0, S, hT, hQ, hE⟩ := h
  obtain ⟨l, ho, hT⟩ := hT.of
  obtain ⟨p, hp⟩ : ∃ p, σ[j]? = some (some (.ref p)) := by
    obtain ⟨O, S⟩ := S
    obtain ⟨v, e1, q⟩ := S.sl j _ (owAt_of ho) (by intro z; cases z)
    obtain ⟨a', vs, e2, o, ha, rr⟩ := q
    cases e2
    exact ⟨_, e1⟩
  have hjo : j ∉ own := fun z => by have := hown j z; omega
  refine ⟨ρ, τ, l, p, S, ho, hp, ?_⟩
  intro D hD
  have hpw : (wipe σ own)[j]? = some (some (.ref p)) := by rw [wipe_outS hjo]; exact hp
  have nalf3 : ∀ acc, fl = true → NoAlf ((V.ref D, R.va (Wl acc)) :: τ) := fun acc z w i f m => by
    rcases List.mem_cons.mp m with e | m
    · cases e
    · exact hE.2 z w i f m
  refine ⟨fun i m H => m = l.length - i ∧ i ≤ l.length ∧ ∃ ρ acc, Sim c ρ ((.ref D, .va (Wl acc)) :: τ) (wipe σ own) H ∧ (∀ j ∈ own, ∀ ct, ρ[j]? = some ct → ct = .no) ∧ lcO j l g tt te own E0 R0 (l.drop i) acc ρ,
    ⟨l.length, by simp, Nat.zero_le _, wipeE ρ own, [], ?_, fun j hj ct q => wipeE_in hj ct q, hT⟩, ?_⟩
  · obtain ⟨O, S1⟩ := S
    obtain ⟨O2, S2⟩ := S1.newLst hD Rps.nil
    exact ⟨O2, S2.wipe hown hlk (wipe_length σ own) (fun i hi => wipe_outS hi)⟩
  · rintro i m H2 ⟨rfl, hi, ρ2, acc, S2, hno, hk⟩
    by_cases hlt : i < l.length
    · have hd : l[i]? = some l[i] := List.getElem?_eq_getElem hlt
      rw [List.drop_eq_getElem_cons hlt] at hk
      unfold lcO at hk
      obtain ⟨ho2, hk⟩ := hk
      obtain ⟨O, S2⟩ := S2
      obtain ⟨vs, ha, rr⟩ := S2.owned ho2 hpw
      obtain ⟨w, hw, rw'⟩ := rr.get hd
      refine .inr ⟨⟨vs, w, SqL.of ha, hw⟩, fun H' => ∃ ρ acc, Sim c ρ ((.ref D, .va (Wl acc)) :: τ) (wipe σ own) H' ∧ (∀ j ∈ own, ∀ ct, ρ[j]? = some ct → ct = .no) ∧ lcO j l g tt te own E0 R0 (l.drop (i + 1)) acc ρ, fun H' hN => ⟨l.length - (i + 1), by omega, rfl, hlt, hN⟩, fun x H' y => ?_⟩
      obtain ⟨e1, y⟩ := y
      subst e1
      have y := y vs (SqL.of ha)
      rw [hw] at y
      cases y
      obtain ⟨ρ', e1, hk⟩ := hk.of
      refine ⟨wipeE ρ2 own, _, l[i], ρ', O, S2.wipe hown hlk rfl (fun _ _ => rfl), .inr (fun j hj => hown j (hg j hj)), rw', e1, fun σ2 agr S4 => ⟨wipe_agr agr hg, ?_⟩⟩
      have back : ∀ {ρ5 : En} {H5 : Hp} {O5 : Ow} {acc : List Pm.D}, Sim0 c H5 O5 ρ5 ((.ref D, .va (Wl acc)) :: τ) σ2 → Sim0 c H5 O5 (wipeE ρ5 own) ((.ref D, .va (Wl acc)) :: τ) (wipe σ own) := fun {ρ5 H5 O5 acc} S =>
        S.wipe hown hlk agr.1.symm (fun j hj => (agr.2 j (fun z => hj (hg j z))).symm)
      refine ⟨ρ', _, _, E0, ⟨O, S4⟩, hk, fun b ρ3 H3 h3 S5 => ?_, hek _ _ _ hE.1, nalf3 acc⟩
      cases b with
      | true =>
        rw [if_pos rfl] at h3 ⊢
        refine ⟨ρ3, _, _, E0, S5, h3, fun r ρ4 y H4 h4 S6 => ?_, hek _ _ _ hE.1, nalf3 acc⟩
        obtain ⟨O6, S6⟩ := S6
        obtain ⟨⟨dy, ρ5⟩, e5, h4⟩ := h4.of
        obtain ⟨O7, S7, r7, _⟩ := fzC_ok S6 e5
        obtain ⟨vs, hv, hl, S8⟩ := S7.appTop r7
        exact ⟨vs, hv, by rw [hl]; exact h4.1, _, _, ⟨_, back S8⟩, fun j hj ct q => wipeE_in hj ct q, h4.2⟩
      | false =>
        rw [if_neg Bool.false_ne_true] at h3 ⊢
        obtain ⟨O5, S5⟩ := S5
        exact ⟨_, acc, ⟨_, back S5⟩, fun j hj ct q => wipeE_in hj ct q, h3⟩
    · have e : i = l.length := by omega
      subst e
      rw [List.drop_length] at hk
      unfold lcO at hk
      obtain ⟨ho2, hk⟩ := hk
      obtain ⟨O, S2⟩ := S2
      obtain ⟨vs, ha, rr⟩ := S2.owned ho2 hpw
      refine .inl ⟨⟨vs, SqL.of ha, by rw [rr.length]; exact Nat.le_refl _⟩, hQ _ _ _ _ hk ?_⟩
      have := S2.wipe (σ' := σ) hown hlk (wipe_length σ own).symm (fun j hj => (wipe_outS hj).symm)
      rw [wipeE_eq hno] at this
      exact ⟨O, this⟩
variable {elt tg iter : Expr} {ifs : List Expr} {scope : Scope} {own : List (Str × Nat)} {g : Tg} {tt : TTp}
theorem p_lcO (j : Nat) {x : Str} {py : Pos} (hj : j < c.nb) (hc : X.calm = true) (hN : X.N.Nodup) (ok : BlkOk X.N X.env.scope scope own) (hown : ∀ i ∈ own.map (·.2), c.nb ≤ i) (hlk : ∀ i ∈ own.map (·.2), i ∉ c.lock) (hsl : ∀ i ∈ g.sl, i ∈ own.map (·.2))
    (hg : ∀ (s : Shared) (H : Hp) (C : Addr) (cl : List (Str × Addr)) (fp : List Addr), PGp c (X.blk s H scope (compEnvC scope cl C X.env) fp) tg g) (ht : ∀ (s : Shared) (H : Hp) (C : Addr) (cl : List (Str × Addr)) (fp : List Addr), PTsp c ek0 fl (X.blk s H scope (compEnvC scope cl C X.env) fp) ifs tt)
    (he : ∀ (s : Shared) (H : Hp) (C : Addr) (cl : List (Str × Addr)) (fp : List Addr), PEp c ek0 fl (X.blk s H scope (compEnvC scope cl C X.env) fp) elt Te)
    (hNx : X.N[j]? = some x := by rfl) (hv : Vis X.env.scope x := by first | exact Or.inl rfl | exact Or.inr (Or.inl rfl) | exact Or.inr (Or.inr rfl)) (hd : (x == ("__debug__" : Str)) = false := by decide)
    (hcd : (x == ("__classdict__" : Str)) = false := by decide) (hs : ∀ y, foldedSetIterable (.Name x py) X.env y = pure y := by intro _; rfl) :
    PEp c ek0 fl X (.ListComp elt [⟨tg, .Name x py, ifs, 0⟩] scope pos) (tLcO j g tt Te (own.map (·.2))) :=
  ⟨fun pins s σ H Q I h => (pe_lc hc hN (i_own (c := c) j hNx hv hd hcd) ok hg ht he hs).run pins s σ H Q I (lc_rdO hj hown hlk hsl ek0_any h)⟩
end
section
variable {ρ : En} {Ee : Exn → En → Prop} {Rr : R → En → Prop} {t : TTp} {Te : TEp} {g : Tg} {own : List Nat} {j : Nat}
theorem e_lcO : tLcO j g t Te own ρ Rr Ee = oD (owAt ρ j) fun l => lcO j l g t Te own Ee Rr l [] (wipeE ρ own) := rfl
theorem ow_at (l : List D) : owAt ρ j = match ρ[j]? with | some (.at (.ow l)) => some l | _ => none := rfl
theorem owAt_some {l : List D} (h : ρ[j]? = some (Wl l)) : owAt ρ j = some l := by unfold owAt; rw [h]
/-- a pure one: the state stays -/
theorem lcO_pure {α : Type} {f : α → D} {l0 : List D} (h : α → List D) (ρ : En) (P : α → Prop) (ho : owAt ρ j = some l0)
    (step : ∀ (a : α) (acc : List D) (K : List D → En → Prop), P a → acc.length < sizeLine → K (acc ++ h a) ρ → oD (tgK g (f a) (wipeE ρ own)) fun ρ2 => t ρ2 (fun b ρ3 => if b = true then Te ρ3 (fun r ρ4 => oD (fzC ρ4 r) fun p => acc.length < sizeLine ∧ K (acc ++ [p.1]) (wipeE p.2 own)) Ee else K acc (wipeE ρ3 own)) Ee)
    (h1 : ∀ a, (h a).length ≤ 1) :
    ∀ (l : List α) (acc : List D), (∀ a ∈ l, P a) → acc.length + l.length ≤ sizeLine → Rr (.va (Wl (acc ++ l.flatMap h))) ρ → lcO j l0 g t Te own Ee Rr (l.map f) acc ρ
  | [], acc, _, _, q => by rw [List.map_nil]; exact ⟨ho, by simpa using q⟩
  | a :: l, acc, hP, hl, q => by
    rw [List.map_cons]
    rw [List.length_cons] at hl
    refine ⟨ho, step a acc _ (hP a List.mem_cons_self) (by omega) (lcO_pure h ρ P ho step h1 l (acc ++ h a) (fun x hx => hP x (List.mem_cons_of_mem _ hx)) ?_ ?_)⟩
    · have := h1 a
      rw [List.length_append]; omega
    · rw [List.append_assoc]; exact q
end
end Pm

namespace Pm
open PySem PySem.Spec PyProof.Rows L2
section
variable {c : Cc} {O O' : Ow} {H H' : Hp} {ρ ρ' : En} {τ τ' : List (V × R)} {σ σ' : St} {v : V} {ℓ ℓ' : Lab} {ct : Ct} {X : Cx} {ek : EK} {fl : Bool}
variable {a b e d0 : Expr} {rest : List Expr} {Ta Tb Tc Te : TEp} {TA' TB' TT' : TTp} {pos : Pos} {T U : TSp} {TA TB : TAp} {es : List Expr}
/-! ### sorted, max, min of a list of ints -/
def insI (x : Int) : List Int → List Int
  | [] => [x]
  | y :: l => if x ≤ y then x :: y :: l else y :: insI x l
def srt : List Int → List Int
  | [] => []
  | x :: l => insI x (srt l)
theorem insI_perm (x : Int) : ∀ l, (insI x l).Perm (x :: l)
  | [] => .refl _
  | y :: l => by
    unfold insI
    split
    · exact .refl _
    · exact ((insI_perm x l).cons y).trans (.swap _ _ _)
theorem srt_perm : ∀ l, (srt l).Perm l
  | [] => .refl _
  | x :: l => (insI_perm x (srt l)).trans ((srt_perm l).cons x)
theorem insI_sorted (x : Int) : ∀ {l : List Int}, l.Pairwise (· ≤ ·) → (insI x l).Pairwise (· ≤ ·)
  | [], _ => by unfold insI; simp
  | y :: l, h => by
    unfold insI
    rw [List.pairwise_cons] at h
    split
    · rename_i hxy
      refine List.pairwise_cons.mpr ⟨fun z hz => ?_, List.pairwise_cons.mpr h⟩
      rcases List.mem_cons.mp hz with rfl | hz
      · exact hxy
      · have := h.1 z hz; omega
    · rename_i hxy
      refine List.pairwise_cons.mpr ⟨fun z hz => ?_, insI_sorted x h.2⟩
      rcases List.mem_cons.mp ((insI_perm x l).mem_iff.mp hz) with rfl | hz
      · omega
      · exact h.1 z hz
theorem srt_sorted : ∀ l, (srt l).Pairwise (· ≤ ·)
  | [] => .nil
  | x :: l => insI_sorted x (srt_sorted l)
theorem sorted_eq : ∀ {l m : List Int}, l.Perm m → l.Pairwise (· ≤ ·) → m.Pairwise (· ≤ ·) → l = m
  | [], m, p, _, _ => p.nil_eq
  | x :: l, [], p, _, _ => absurd p.length_eq (by simp)
  | x :: l, y :: m, p, h1, h2 => by
    rw [List.pairwise_cons] at h1 h2
    have e : x = y := by
      have a1 := p.mem_iff.mp (show x ∈ x :: l from List.mem_cons_self)
      have a2 := p.mem_iff.mpr (show y ∈ y :: m from List.mem_cons_self)
      rcases List.mem_cons.mp a1 with q | q
      · exact q
      · rcases List.mem_cons.mp a2 with q2 | q2
        · exact q2.symm
        · have := h2.1 x q; have := h1.1 y q2; omega
    subst e
    rw [sorted_eq (p.cons_inv) h1.2 h2.2]
theorem srt_of {l ns : List Int} (p : l.Perm ns) (h : l.Pairwise (· ≤ ·)) : l = srt ns := sorted_eq (p.trans (srt_perm ns).symm) h (srt_sorted ns)
def cSort : CbT := fun rs ρ R => match rs with
  | [r] => wD (vw ρ r) fun d => match d with
    | .lst l => wI (ints? l) fun ns => R (.va (Wl ((srt ns).map .int))) ρ
    | _ => False
  | _ => False
where wI (o : Option (List Int)) (k : List Int → Prop) : Prop := match o with
  | some d => k d
  | none => False
theorem sort_ok (hK : X.K = c.K) : CbOk c (rSortedI X.K) cSort := by
  intro σ ρ τ vs rs H Q R0 S hl hT hQ
  rw [hK]
  unfold cSort at hT
  split at hT
  · rename_i r'
    obtain ⟨d, e1, h1⟩ := hT.of
    match vs, hl with
    | [v], _ =>
      obtain ⟨O, S⟩ := S
      have hv := S.vw e1
      split at h1
      · obtain ⟨p, vs, rfl, q, r⟩ := hv.lst
        unfold cSort.wI at h1
        split at h1
        · rename_i ns e2
          have e3 := ints_of r e2
          subst e3
          refine ⟨p, ns, rfl, SqL.of q, fun ns' p' hp hs hn => ?_⟩
          have e4 := srt_of hp hs
          subst e4
          exact hQ _ _ _ _ h1 (S.pop.newLst hn (rps_ints _))
        · exact h1.elim
      · exact h1.elim
  · exact hT.elim
def fMaxL (d : D) (Q : D → Prop) : Prop := match d with
  | .lst l => oD (ints? l) fun ns => 0 < ns.length ∧ ∀ m, m ∈ ns → (∀ y, y ∈ ns → y ≤ m) → Q (.int m)
  | _ => False
def fMinL (d : D) (Q : D → Prop) : Prop := match d with
  | .lst l => oD (ints? l) fun ns => 0 < ns.length ∧ ∀ m, m ∈ ns → (∀ y, y ∈ ns → m ≤ y) → Q (.int m)
  | _ => False
theorem maxL_ok (hK : X.K = c.K) : CbOk c (rMax X.K) (cD1 fMaxL) := cD1_ok fun A H v d Q R0 hv hf hQ => by
  unfold fMaxL at hf
  split at hf
  · obtain ⟨ns, e, hf⟩ := hf.of
    obtain ⟨p, vs, rfl, q, r⟩ := hv.lst
    exact ⟨p, ns, rfl, by rw [← ints_of r e]; exact SqL.of q, hf.1, fun m h1 h2 => hQ _ _ (hf.2 m h1 h2) (Pl.int _)⟩
  · exact hf.elim
theorem minL_ok (hK : X.K = c.K) : CbOk c (rMin X.K) (cD1 fMinL) := cD1_ok fun A H v d Q R0 hv hf hQ => by
  unfold fMinL at hf
  split at hf
  · obtain ⟨ns, e, hf⟩ := hf.of
    obtain ⟨p, vs, rfl, q, r⟩ := hv.lst
    exact ⟨p, ns, rfl, by rw [← ints_of r e]; exact SqL.of q, hf.1, fun m h1 h2 => hQ _ _ (hf.2 m h1 h2) (Pl.int _)⟩
  · exact hf.elim
/-! their equations -/
def srtK (R : R → En → Prop) (ρ : En) : D → Prop
  | .lst l => oD (ints? l) fun ns => R (.va (Wl ((srt ns).map .int))) ρ
  | _ => False
theorem e_cSort {r : R} {K : R → En → Prop} : cSort [r] ρ K = oD (vw ρ r) (srtK K ρ) := by
  show wD (vw ρ r) _ = _
  cases vw ρ r with
  | none => rfl
  | some d =>
    show (match d with | .lst l => _ | _ => False) = srtK K ρ d
    cases d with
    | lst l =>
      show cSort.wI (ints? l) _ = oD (ints? l) _
      cases ints? l <;> rfl
    | _ => rfl
theorem srtK_lst {K : R → En → Prop} {l : List D} : srtK K ρ (.lst l) = oD (ints? l) fun ns => K (.va (Wl ((srt ns).map .int))) ρ := rfl
theorem f_maxL {l : List D} {Q : D → Prop} : fMaxL (.lst l) Q = oD (ints? l) fun ns => 0 < ns.length ∧ ∀ m, m ∈ ns → (∀ y, y ∈ ns → y ≤ m) → Q (.int m) := rfl
theorem f_minL {l : List D} {Q : D → Prop} : fMinL (.lst l) Q = oD (ints? l) fun ns => 0 < ns.length ∧ ∀ m, m ∈ ns → (∀ y, y ∈ ns → m ≤ y) → Q (.int m) := rfl
end
end Pm

namespace Pm
open PySem PySem.Spec PyProof.Rows L2
/-! ### enumerate over a list or a tuple -/
def ItE (rd : Hp → List V → Prop) (k : Int) : It :=
  ⟨fun i H => ∃ us u, rd H us ∧ us[i]? = some u, fun i H v H' => ∃ t u, v = .ref t ∧ H t = none ∧ H' = upd H t (.tup [.int (k + (i : Int)), u]) ∧ ∀ us, rd H us → us[i]? = some u, fun i H => ∃ us, rd H us ∧ us.length ≤ i⟩

theorem en_endL {P : Program} {w : World} {A : Around} {E : Value → Shared → Prop} {s : Shared} {e it a : Addr} {i : Nat} {c : Int} {its : Array Value} {old : Value} {Q : Option Value → Shared → Prop} (hh : A.handled = none) (he : IsEnum s.heap e it c old) (hit : s.heap.IsListIter it a i) (hl : s.heap.IsList a its) (hx : its[i]? = none)
    (hQ : ∀ h', Heap.ExtBut it s.heap h' → Q none { s with heap := h' }) : wpAny (model P w) A (pyNext (.ref e)) Q E s := by
  have hT : s.TypeIs (.ref e) "enumerate" := ⟨_, he, rfl⟩
  unfold pyNext
  refine wpAny_bind (wpAny_attempt (wpAny_callSpecial?_slot (name := Str.ofString "__next__") hT F.slot_enumerate_next (wpAny_call_entry F.slot_enumerate_next hT F.entry_enumerate_next ?_ (F.args_enumerate_next_1 _))))
  show wpAny _ _ (field (.ref e) 2 >>= _) _ _ _
  refine wpAny_bind (wpAny_field he rfl (x := .ref it) rfl (wpAny_bind (wpAny_nextOf_list_end (A := A.in1) hh hit hl hx fun h' x he' hx' => ?_)))
  obtain ⟨o, ho, hc⟩ := hx'
  exact wpAny_bind (wpAny_isInstance (T := "StopIteration") (b := true) ⟨o, ho, hc⟩ isSubtype_stop (wpAny_pure (hQ _ he')))

theorem turn_enL {P : Program} {w : World} {K : PySem.W.Frag} {es : List Expr} {kk : Nat} {tp : Pos} {k : Int} (a e it : Addr) :
    Turn P w K (.Tuple es kk tp) (ItE (fun H us => SqL K H a us) k) [e, it] e (fun i h => (∃ old, IsEnum h e it (k + (i : Int)) old) ∧ h.IsListIter it a i ∧ (e ≠ it ∧ a ≠ it ∧ e ≠ a)) where
  mem := List.mem_cons_self
  obj := fun i h st b hb => by
    obtain ⟨⟨old, q1⟩, ⟨o, q2, _, q3⟩, _⟩ := st
    rcases List.mem_cons.mp hb with rfl | hb
    · exact ⟨_, q1, fun v z => nomatch z⟩
    · rw [List.mem_singleton.mp hb]
      exact ⟨o, q2, fun v z => by rw [q3] at z; cases z⟩
  keep := fun i h h' st kp => ⟨let ⟨old, q⟩ := st.1; ⟨old, kp e List.mem_cons_self _ q⟩, st.2.1.at fun o q => kp it (List.mem_cons_of_mem _ List.mem_cons_self) o q, st.2.2⟩
  item := by
    intro X hP hw hK hc i pins s σ H E I hf st hg
    subst hP hw hK
    obtain ⟨⟨old, q1⟩, hit, n1, n2, n3⟩ := st
    obtain ⟨us, u, hq, hu⟩ := hg
    obtain ⟨its, rv, p, hz⟩ := I.list hq
    obtain ⟨y, hy, ry⟩ := rv.get hu
    have le : e < s.heap.objs.size := Heap.lt_size q1
    have li : it < s.heap.objs.size := let ⟨_, q, _⟩ := hit; Heap.lt_size q
    have hp : s.heap.IsList a its.toArray := p.isList
    have hlt : i < its.toArray.size := by
      have := (List.getElem?_eq_some_iff.mp hy).1
      simpa using this
    refine wpAny_pyNext_enum_itemC (Draws.list (A := X.A.in1) (I.ok.hd hc) it a n2 its.toArray) q1 ⟨hit, hp⟩ hlt n1 (by simp [n1, n3]) fun x h' tk hx ho hs hT hsz hk => ?_
    have hxy : x = y := by
      have hx : its.toArray[i]? = some x := hx
      rw [List.getElem?_toArray, hy] at hx
      cases hx; rfl
    subst hxy
    refine ⟨_, rfl, wpAny_letOwnedTupleGo_enum (s := { s with heap := h', toks := tk + 1 }) ho fun h2 he2 sb => ?_⟩
    have t2 : h2.get? s.heap.objs.size = some { cls := .type "tuple", data := .seq #[.int (k + (i : Int)) tk, x] } := (sb.2 _ (Nat.ne_of_gt le)).trans hT
    have nw : ObjOk X.prog X.w (upd H s.heap.objs.size (.tup [.int (k + (i : Int)), u])) h2 s.heap.objs.size (.tup [.int (k + (i : Int)), u]) :=
      ⟨(by decide : 2 ≤ sizeLine), [.int (k + (i : Int)) tk, x], .cons ⟨_, rfl⟩ (.cons ry .nil), ⟨_, t2, rfl, _, rfl⟩⟩
    have J : Inv X pins σ (upd H s.heap.objs.size (.tup [.int (k + (i : Int)), u])) { s with heap := h2, toks := tk + 1 } :=
      I.turnedNew (t' := tk + 1) (ch := [e, it]) (fun b ob hb q => (sb.2 b fun z => hb (by simp [z])).trans (hk b ob (fun z => hb (by simp [z])) (fun z => hb (by simp [z])) q)) hf (Nat.le_refl _) nw
    refine ⟨.ref s.heap.objs.size, _, J, rfl, ⟨_, u, rfl, I.hok.fresh (Nat.le_refl _), rfl, fun vs hv => by rw [I.list_inj hv hq]; exact hu⟩, ⟨⟨x, ?_⟩, hs.1.at fun o q => (sb.2 it n1.symm).trans q, n1, n2, n3⟩, fun b hb => ?_⟩
    · rw [show k + ((i + 1 : Nat) : Int) = k + (i : Int) + 1 by omega]; exact he2
    · have lb : b < s.heap.objs.size := by
        rcases List.mem_cons.mp hb with rfl | hb
        · exact le
        · rw [List.mem_singleton.mp hb]; exact li
      rw [upd_ne (Nat.ne_of_lt lb)]; exact (hf b hb).1
  done := by
    intro X hP hw hK hc i pins s σ H E I hf st hg
    subst hP hw hK
    obtain ⟨⟨old, q1⟩, hit, n1, n2, n3⟩ := st
    obtain ⟨us, hq, hu⟩ := hg
    obtain ⟨its, rv, p, hz⟩ := I.list hq
    have hp : s.heap.IsList a its.toArray := p.isList
    obtain ⟨f0, f1, f2, f3, f4, f5⟩ := hf it (List.mem_cons_of_mem _ List.mem_cons_self)
    have hl := rv.length
    exact en_endL (I.ok.hd hc) q1 hit hp (by simp; omega) fun h' eb => ⟨rfl, I.turned (t' := s.toks) (fun b o hb q => eb b o hb q) f0 f1 f3 f4 f5⟩
  self := fun A i s Q E st h => let ⟨⟨_, q⟩, _⟩ := st; wpAny_pyIter_enum q h

theorem en_endT {P : Program} {w : World} {A : Around} {E : Value → Shared → Prop} {s : Shared} {e it a : Addr} {i : Nat} {c : Int} {its : Array Value} {old : Value} {Q : Option Value → Shared → Prop} (hh : A.handled = none) (he : IsEnum s.heap e it c old) (hit : s.heap.IsTupleIter it a i) (hl : s.heap.IsTuple a its) (hx : its[i]? = none)
    (hQ : ∀ h', Heap.ExtBut it s.heap h' → Q none { s with heap := h' }) : wpAny (model P w) A (pyNext (.ref e)) Q E s := by
  have hT : s.TypeIs (.ref e) "enumerate" := ⟨_, he, rfl⟩
  unfold pyNext
  refine wpAny_bind (wpAny_attempt (wpAny_callSpecial?_slot (name := Str.ofString "__next__") hT F.slot_enumerate_next (wpAny_call_entry F.slot_enumerate_next hT F.entry_enumerate_next ?_ (F.args_enumerate_next_1 _))))
  show wpAny _ _ (field (.ref e) 2 >>= _) _ _ _
  refine wpAny_bind (wpAny_field he rfl (x := .ref it) rfl (wpAny_bind (wpAny_nextOf_tuple_end (A := A.in1) hh hit hl hx fun h' x he' hx' => ?_)))
  obtain ⟨o, ho, hc⟩ := hx'
  exact wpAny_bind (wpAny_isInstance (T := "StopIteration") (b := true) ⟨o, ho, hc⟩ isSubtype_stop (wpAny_pure (hQ _ he')))

theorem turn_enT {P : Program} {w : World} {K : PySem.W.Frag} {es : List Expr} {kk : Nat} {tp : Pos} {k : Int} (a e it : Addr) :
    Turn P w K (.Tuple es kk tp) (ItE (fun H us => SqT K H a us) k) [e, it] e (fun i h => (∃ old, IsEnum h e it (k + (i : Int)) old) ∧ h.IsTupleIter it a i ∧ (e ≠ it ∧ a ≠ it ∧ e ≠ a)) where
  mem := List.mem_cons_self
  obj := fun i h st b hb => by
    obtain ⟨⟨old, q1⟩, ⟨o, q2, _, q3⟩, _⟩ := st
    rcases List.mem_cons.mp hb with rfl | hb
    · exact ⟨_, q1, fun v z => nomatch z⟩
    · rw [List.mem_singleton.mp hb]
      exact ⟨o, q2, fun v z => by rw [q3] at z; cases z⟩
  keep := fun i h h' st kp => ⟨let ⟨old, q⟩ := st.1; ⟨old, kp e List.mem_cons_self _ q⟩, st.2.1.at fun o q => kp it (List.mem_cons_of_mem _ List.mem_cons_self) o q, st.2.2⟩
  item := by
    intro X hP hw hK hc i pins s σ H E I hf st hg
    subst hP hw hK
    obtain ⟨⟨old, q1⟩, hit, n1, n2, n3⟩ := st
    obtain ⟨us, u, hq, hu⟩ := hg
    obtain ⟨its, rv, p, hz⟩ := I.tuple hq
    obtain ⟨y, hy, ry⟩ := rv.get hu
    have le : e < s.heap.objs.size := Heap.lt_size q1
    have li : it < s.heap.objs.size := let ⟨_, q, _⟩ := hit; Heap.lt_size q
    have hp : s.heap.IsTuple a its.toArray := p
    have hlt : i < its.toArray.size := by
      have := (List.getElem?_eq_some_iff.mp hy).1
      simpa using this
    refine wpAny_pyNext_enum_itemC (Draws.tuple (A := X.A.in1) (I.ok.hd hc) it a n2 its.toArray) q1 ⟨hit, hp⟩ hlt n1 (by simp [n1, n3]) fun x h' tk hx ho hs hT hsz hk => ?_
    have hxy : x = y := by
      have hx : its.toArray[i]? = some x := hx
      rw [List.getElem?_toArray, hy] at hx
      cases hx; rfl
    subst hxy
    refine ⟨_, rfl, wpAny_letOwnedTupleGo_enum (s := { s with heap := h', toks := tk + 1 }) ho fun h2 he2 sb => ?_⟩
    have t2 : h2.get? s.heap.objs.size = some { cls := .type "tuple", data := .seq #[.int (k + (i : Int)) tk, x] } := (sb.2 _ (Nat.ne_of_gt le)).trans hT
    have nw : ObjOk X.prog X.w (upd H s.heap.objs.size (.tup [.int (k + (i : Int)), u])) h2 s.heap.objs.size (.tup [.int (k + (i : Int)), u]) :=
      ⟨(by decide : 2 ≤ sizeLine), [.int (k + (i : Int)) tk, x], .cons ⟨_, rfl⟩ (.cons ry .nil), ⟨_, t2, rfl, _, rfl⟩⟩
    have J : Inv X pins σ (upd H s.heap.objs.size (.tup [.int (k + (i : Int)), u])) { s with heap := h2, toks := tk + 1 } :=
      I.turnedNew (t' := tk + 1) (ch := [e, it]) (fun b ob hb q => (sb.2 b fun z => hb (by simp [z])).trans (hk b ob (fun z => hb (by simp [z])) (fun z => hb (by simp [z])) q)) hf (Nat.le_refl _) nw
    refine ⟨.ref s.heap.objs.size, _, J, rfl, ⟨_, u, rfl, I.hok.fresh (Nat.le_refl _), rfl, fun vs hv => by rw [I.tuple_inj hv hq]; exact hu⟩, ⟨⟨x, ?_⟩, hs.1.at fun o q => (sb.2 it n1.symm).trans q, n1, n2, n3⟩, fun b hb => ?_⟩
    · rw [show k + ((i + 1 : Nat) : Int) = k + (i : Int) + 1 by omega]; exact he2
    · have lb : b < s.heap.objs.size := by
        rcases List.mem_cons.mp hb with rfl | hb
        · exact le
        · rw [List.mem_singleton.mp hb]; exact li
      rw [upd_ne (Nat.ne_of_lt lb)]; exact (hf b hb).1
  done := by
    intro X hP hw hK hc i pins s σ H E I hf st hg
    subst hP hw hK
    obtain ⟨⟨old, q1⟩, hit, n1, n2, n3⟩ := st
    obtain ⟨us, hq, hu⟩ := hg
    obtain ⟨its, rv, p, hz⟩ := I.tuple hq
    have hp : s.heap.IsTuple a its.toArray := p
    obtain ⟨f0, f1, f2, f3, f4, f5⟩ := hf it (List.mem_cons_of_mem _ List.mem_cons_self)
    have hl := rv.length
    exact en_endT (I.ok.hd hc) q1 hit hp (by simp; omega) fun h' eb => ⟨rfl, I.turned (t' := s.toks) (fun b o hb q => eb b o hb q) f0 f1 f3 f4 f5⟩
  self := fun A i s Q E st h => let ⟨⟨_, q⟩, _⟩ := st; wpAny_pyIter_enum q h

set_option maxHeartbeats 1000000 in
theorem enum_new {v : Value} {o : Obj} {C : Heap → Prop} (B : Begins v o C) : Meets (Builtin.«enumerate.__new__» ⟨[.type "enumerate", v], []⟩) (fun _ R s => C s.heap ∧
    R (.ok (.ret (.ref (s.heap.push o).objs.size))) { s with heap := (s.heap.push o).push { cls := .type "enumerate", data := .fields #[.none, .bool false, .ref s.heap.objs.size, rawInt 0, .none, .none] } }) := .of_wp fun prog w A R s h => by
  obtain ⟨hp, g, d, tk, os⟩ := s; obtain ⟨h1, h⟩ := h
  have hsub := sub_enumerate
  have q1 : ∀ {A' : Around} {E : Value → Shared → Prop} {Q : Value → Shared → Prop}, Q (.ref hp.objs.size) ⟨hp.push o, g, d, tk, os⟩ → wpAny (model prog w) A' (pyIter v) Q E ⟨hp, g, d, tk, os⟩ := fun q => B.iter prog w _ _ ⟨hp, g, d, tk, os⟩ _ h1 q
  wp_walk using q1
  refine wpAny_stack_any fun st => wpAny_pure ?_
  split
  · rename_i c _ _ _ _ _
    cases (c == Value.type "enumerate")
    · wp_walk using q1; exact ⟨_, rfl, h⟩
    · wp_walk using q1; exact ⟨_, rfl, h⟩
  · wp_walk using q1; exact ⟨_, rfl, h⟩
theorem call_en {P : Program} {w : World} {A : Around} {E : Value → Shared → Prop} {s : Shared} {v : Value} {o : Obj} {C : Heap → Prop} {Q : Value → Shared → Prop} (B : Begins v o C) (h1 : C s.heap)
    (h : ∀ h', IsEnum h' (s.heap.objs.size + 1) s.heap.objs.size 0 .none → h'.get? s.heap.objs.size = some o → (∀ b o, s.heap.get? b = some o → h'.get? b = some o) → Q (.ref (s.heap.objs.size + 1)) { s with heap := h' }) :
    wpAny (model P w) A (call (.type "enumerate") [v]) Q E s := by
  refine callType_new F.called_enumerate (by decide) (F.typeCall_enumerate_1 _) (F.newCall_enumerate_1 _) (fun obj => F.args_object_init_2 obj _) F.entry_enumerate_new (enum_new B) ⟨h1, ?_⟩
  have hz : (s.heap.push o).objs.size = s.heap.objs.size + 1 := Heap.size_push ..
  show _ ∧ _
  rw [hz]
  have he : IsEnum ((s.heap.push o).push { cls := .type "enumerate", data := .fields #[.none, .bool false, .ref s.heap.objs.size, rawInt 0, .none, .none] }) (s.heap.objs.size + 1) s.heap.objs.size 0 .none := by
    have z := Heap.get?_push_size (s.heap.push o) (o := { cls := .type "enumerate", data := .fields #[.none, .bool false, .ref s.heap.objs.size, rawInt 0, .none, .none] }) rfl
    rw [hz] at z; exact z
  exact ⟨⟨_, he, rfl⟩, h _ he (Heap.get?_push_of_some _ (Heap.get?_push_size _ B.free)) fun b o x => Heap.get?_push_of_some _ (Heap.get?_push_of_some _ x)⟩
section
variable {c : Cc} {O O' : Ow} {H H' : Hp} {ρ ρ' : En} {τ τ' : List (V × R)} {σ σ' : St} {v : V} {ℓ ℓ' : Lab} {ct : Ct} {X : Cx} {ek : EK} {fl : Bool}
variable {a b e d0 : Expr} {rest : List Expr} {Ta Tb Tc Te : TEp} {TA' TB' TT' : TTp} {pos : Pos} {T U : TSp} {TA TB : TAp} {es : List Expr}
def enD : Int → List D → List D
  | _, [] => []
  | k, d :: l => .tup [.int k, d] :: enD (k + 1) l
theorem enD_len : ∀ {k : Int} {l : List D}, (enD k l).length = l.length
  | _, [] => rfl
  | k, d :: l => by unfold enD; rw [List.length_cons, List.length_cons, enD_len]
theorem enD_get : ∀ {k : Int} {l : List D} {i : Nat} {d : D}, (enD k l)[i]? = some d → ∃ d', l[i]? = some d' ∧ d = .tup [.int (k + (i : Int)), d']
  | _, [], _, _, h => by unfold enD at h; simp at h
  | k, x :: l, 0, d, h => by unfold enD at h; simp at h; exact ⟨x, rfl, by rw [← h]; simp⟩
  | k, x :: l, i + 1, d, h => by
    unfold enD at h
    obtain ⟨d', e1, e2⟩ := enD_get (k := k + 1) (l := l) (i := i) (by simpa using h)
    exact ⟨d', by simpa using e1, by rw [e2, show k + 1 + (i : Int) = k + ((i + 1 : Nat) : Int) by omega]⟩
theorem en_itG {rd : Hp → List V → Prop} {k : Int} {l : List D} {p : Addr} {d0 : D} (hrd : ∀ (H : Hp) (O : Ow), Rp c.K H (c.av O) d0 (.ref p) → ∃ vs, rd H vs ∧ Rps c.K H (c.av O) l vs) : ItOk c (ItE rd k) (enD k l) [(.ref p, .va (Fz d0))] := by
  intro σ H ρ τ0 τ i S
  obtain ⟨O, S⟩ := S
  obtain ⟨vs, hr, rr⟩ := hrd H O S.tm.app.1
  refine ⟨fun d hd => ?_, fun hl => ⟨vs, hr, by rw [rr.length, ← enD_len (k := k)]; exact hl⟩⟩
  obtain ⟨d', e1, e2⟩ := enD_get hd
  obtain ⟨u, hu, ru⟩ := rr.get e1
  refine ⟨⟨vs, u, hr, hu⟩, fun x H' y => ?_⟩
  obtain ⟨t, u', ex, hn, eH, y⟩ := y
  have y := y vs hr
  rw [hu] at y; cases y
  subst ex eH e2
  have S2 := S.new (o := .tup [.int (k + (i : Int)), u]) (m := none) hn (fun z => absurd rfl z)
  refine ⟨_, S2, ?_⟩
  unfold Rp
  exact ⟨t, _, rfl, SqT.of upd_same, .cons (Rp.ofInt _) (.one ((Ext.new (o := .tup [.int (k + (i : Int)), u]) (m := none) S hn).rp ru))⟩
def enK (K : List D → En → Prop) (ρ : En) (rs : List R) : Prop := match rs with
  | [r] => match fzC ρ r with
    | some (.lst l, ρ1) => K (enD 0 l) ρ1
    | some (.tup l, ρ1) => K (enD 0 l) ρ1
    | _ => False
  | _ => False
def iEnum (TA : TAp) : TIp' := fun ρ R E => TA ρ (fun rs ρ1 => enK R ρ1 rs) E
theorem enL_pi {tgs : List Expr} {kk : Nat} {tp : Pos} {pins : List (Addr × Obj)} {s : Shared} {p : Addr} {xs : List V} {RR : It → Hp → Prop} (J : Inv X pins σ H s) (h : SqL X.K H p xs) (q : RR (ItE (fun H us => SqL X.K H p us) 0) H) : wpAny (model X.prog X.w) X.A (call (.type "enumerate") [.ref p]) (fun v s2 => wpAny (model X.prog X.w) X.A (pyIter v) (PIE X pins σ (.Tuple tgs kk tp) RR) X.xe s2) X.xe s := by
  obtain ⟨us, _, pl, _⟩ := J.list h
  have hl := pl.isList
  refine call_en (begins_list p us.toArray) hl fun h' he hit hk => wpAny_pyIter_enum he ?_
  have lp : p < s.heap.objs.size := let ⟨_, z, _⟩ := hl; Heap.lt_size z
  refine ⟨s.heap.objs.size + 1, [s.heap.objs.size + 1, s.heap.objs.size], _, _, H, rfl, J.kept (t' := s.toks) hk, turn_enL p (s.heap.objs.size + 1) s.heap.objs.size, ⟨⟨.none, he⟩, ⟨_, hit, rfl, rfl⟩, Nat.succ_ne_self _, Nat.ne_of_lt lp, Nat.ne_of_gt (Nat.lt_succ_of_lt lp)⟩, fun b hb => ?_, q⟩
  have hle : s.heap.objs.size ≤ b := by
    rcases List.mem_cons.mp hb with rfl | hb
    · omega
    · rw [List.mem_singleton.mp hb]; exact Nat.le_refl _
  exact J.fpOk hle (J.hok.fresh hle)
theorem enT_pi {tgs : List Expr} {kk : Nat} {tp : Pos} {pins : List (Addr × Obj)} {s : Shared} {p : Addr} {xs : List V} {RR : It → Hp → Prop} (J : Inv X pins σ H s) (h : SqT X.K H p xs) (q : RR (ItE (fun H us => SqT X.K H p us) 0) H) : wpAny (model X.prog X.w) X.A (call (.type "enumerate") [.ref p]) (fun v s2 => wpAny (model X.prog X.w) X.A (pyIter v) (PIE X pins σ (.Tuple tgs kk tp) RR) X.xe s2) X.xe s := by
  obtain ⟨us, _, pl, _⟩ := J.tuple h
  have hl : s.heap.IsTuple p us.toArray := pl
  refine call_en (begins_tuple p us.toArray) hl fun h' he hit hk => wpAny_pyIter_enum he ?_
  have lp : p < s.heap.objs.size := let ⟨_, z, _⟩ := hl; Heap.lt_size z
  refine ⟨s.heap.objs.size + 1, [s.heap.objs.size + 1, s.heap.objs.size], _, _, H, rfl, J.kept (t' := s.toks) hk, turn_enT p (s.heap.objs.size + 1) s.heap.objs.size, ⟨⟨.none, he⟩, ⟨_, hit, rfl, rfl⟩, Nat.succ_ne_self _, Nat.ne_of_lt lp, Nat.ne_of_gt (Nat.lt_succ_of_lt lp)⟩, fun b hb => ?_, q⟩
  have hle : s.heap.objs.size ≤ b := by
    rcases List.mem_cons.mp hb with rfl | hb
    · omega
    · rw [List.mem_singleton.mp hb]; exact Nat.le_refl _
  exact J.fpOk hle (J.hok.fresh hle)
theorem i_enum {tgs : List Expr} {kk : Nat} {tp p : Pos} (hm : X.mg "enumerate" = none) (ha : PAp c ek fl X [e] TA) (hK : X.K = c.K := by rfl) (hg : Gl X "enumerate" := by rfl) (hs : starEach [e] X.env = [(false, eval e X.env)] := by rfl) : PIp' c ek fl X (.Tuple tgs kk tp) (.Call (.Name "enumerate" p) [e] [] pos) (iEnum TA) := by
  refine ⟨fun pins s σ H Q I h => ?_⟩
  obtain ⟨ρ, τ, R0, E0, S, hT, q, q5⟩ := h
  refine Call_ (ld_blt I hg hm boot_enumerate (PyProof.Rows.callWith_type1 (thn (ha.run pos pins s σ H (fun vs H1 => ∃ v l ρ1, vs = [v] ∧ (Sim c ρ1 ((v, .va (Fz (.lst l))) :: τ) σ H1 ∨ Sim c ρ1 ((v, .va (Fz (.tup l))) :: τ) σ H1) ∧ R0 (enD 0 l) ρ1) I ⟨ρ, τ, _, _, S, hT, fun rs ρ' vs H' h1 hl S1 => ?_, q5⟩) fun us s1 ⟨vs, H1, I1, rvs, x, l, ρ1, ex, hS, h1⟩ => ?_) hs rfl))
  · unfold enK at h1
    split at h1
    · match vs, hl with
      | [v], _ =>
        obtain ⟨O, S1⟩ := S1
        split at h1
        · rename_i l ρ1 e1
          obtain ⟨O2, S2, rp, _⟩ := fzC_ok S1 e1
          exact ⟨v, l, ρ1, rfl, .inl ⟨O2, S2.push rp⟩, h1⟩
        · rename_i l ρ1 e1
          obtain ⟨O2, S2, rp, _⟩ := fzC_ok S1 e1
          exact ⟨v, l, ρ1, rfl, .inr ⟨O2, S2.push rp⟩, h1⟩
        · exact h1.elim
    · exact h1.elim
  subst ex
  cases rvs with
  | cons rv rr =>
  cases rr
  · rcases hS with ⟨O, S1⟩ | ⟨O, S1⟩
    · have rp : Rp c.K H1 (c.av O) (.lst l) x := S1.tm.1
      obtain ⟨a, vs, rfl, ha, rr⟩ := rp.top.lst
      cases rv
      refine enL_pi I1 (SqL.of ha) (q (enD 0 l) ρ1 _ _ [(.ref a, .va (Fz (.lst l)))] h1 (en_itG fun H O rp => ?_) (fun v r m => by rcases List.mem_cons.mp m with e | m; cases e; exact ⟨_, rfl⟩; cases m) ⟨O, S1⟩)
      obtain ⟨a', vs, e, ha, rr⟩ := rp.top.lst
      cases e
      exact ⟨vs, SqL.of ha, rr⟩
    · have rp : Rp c.K H1 (c.av O) (.tup l) x := S1.tm.1
      obtain ⟨a, vs, rfl, ha, rr⟩ := rp.top.tup
      cases rv
      rw [← hK] at ha
      refine enT_pi I1 ha (q (enD 0 l) ρ1 _ _ [(.ref a, .va (Fz (.tup l)))] h1 (en_itG fun H O rp => ?_) (fun v r m => by rcases List.mem_cons.mp m with e | m; cases e; exact ⟨_, rfl⟩; cases m) ⟨O, S1⟩)
      obtain ⟨a', vs, e, ha, rr⟩ := rp.top.tup
      cases e
      exact ⟨vs, by rw [hK]; exact ha, rr⟩
def walkE (K : List D → En → Prop) (ρ : En) : D → Prop
  | .lst l => K (enD 0 l) ρ
  | .tup l => K (enD 0 l) ρ
  | _ => False
theorem e_iEnum {K : List D → En → Prop} {Ee : Exn → En → Prop} : iEnum TA ρ K Ee = TA ρ (fun rs ρ' => enK K ρ' rs) Ee := rfl
theorem enK_one {K : List D → En → Prop} {r : R} : enK K ρ [r] = oD (fzC ρ r) fun p => walkE K p.2 p.1 := by
  unfold enK
  show (match fzC ρ r with | some (.lst l, ρ1) => _ | some (.tup l, ρ1) => _ | _ => False) = _
  cases fzC ρ r with
  | none => rfl
  | some p => obtain ⟨d, ρ1⟩ := p; cases d <;> rfl
theorem walkE_lst {K : List D → En → Prop} {l : List D} : walkE K ρ (.lst l) = K (enD 0 l) ρ := rfl
theorem walkE_tup {K : List D → En → Prop} {l : List D} : walkE K ρ (.tup l) = K (enD 0 l) ρ := rfl
/-- a loop over the pairs, by what stays true -/
theorem for_en {α : Type} {f : α → D} {g : Tg} {T : TSp} {E : Ep} (I : Nat → List α → En → Prop) (step : ∀ (k : Nat) (a : α) (l : List α) (ρ : En) (K : En → Prop), I k (a :: l) ρ → (∀ ρ', I (k + 1) l ρ' → K ρ') → oD (tgK g (.tup [.int (k : Nat), f a]) ρ) fun ρ2 => T ρ2 (E.lp K)) (fin : ∀ k ρ, I k [] ρ → E.nx ρ) :
    ∀ (l : List α) (k : Nat) (ρ : En), I k l ρ → forK g T (enD (k : Nat) (l.map f)) ρ E
  | [], k, ρ, h => by rw [List.map_nil]; unfold enD; rw [for_nil]; exact fin k ρ h
  | a :: l, k, ρ, h => by
    rw [List.map_cons]
    unfold enD
    rw [for_cons]
    refine step k a l ρ _ h fun ρ' h' => ?_
    have := for_en I step fin l (k + 1) ρ' h'
    rwa [show ((k + 1 : Nat) : Int) = (k : Int) + 1 by omega] at this
end
end Pm

namespace Pm
open PySem PySem.Spec PyProof.Rows L2
section
variable {c : Cc} {O O' : Ow} {H H' : Hp} {ρ ρ' : En} {τ τ' : List (V × R)} {σ σ' : St} {v : V} {ℓ ℓ' : Lab} {ct : Ct} {X : Cx} {ek : EK} {fl : Bool}
variable {a b e d0 : Expr} {rest : List Expr} {Ta Tb Tc Te : TEp} {TA' TB' TT' : TTp} {pos : Pos} {T U : TSp} {TA TB : TAp} {es : List Expr}
/-! ### methods of built-in types that change nothing -/
abbrev MpF := D → List D → (Ct → Prop) → Prop
def MpOk (c : Cc) (f : MpF) (r : V → List V → Hp → VK → Prop) : Prop := ∀ (σ : St) (ρ : En) (τ : List (V × R)) (O : Ow) (H : Hp) (v : V) (ws : List V) (d : D) (ds : List D) (Q : VK) (K0 : Ct → Prop), Sim0 c H O ρ τ σ → RpT c.K H (c.av O) d v → Rps c.K H (c.av O) ds ws → f d ds K0 →
  (∀ ct w H', K0 ct → Sim c ρ ((w, .va ct) :: τ) σ H' → Q w H') → r v ws H Q
def tyD : String → D → Bool
  | "list", .lst _ => true
  | "str", .str _ => true
  | _, _ => false
theorem tyD_ok {K : PySem.W.Frag} {A : Av} {T : String} {d : D} (h : RpT K H A d v) (e : tyD T d = true) : tyV K T v H := by
  unfold tyD at e
  split at e
  · obtain ⟨p, vs, rfl, q, r⟩ := h.lst
    exact .inl ⟨rfl, vs, SqL.of q⟩
  · rw [h.str]; rfl
  · cases e
def tyK (T : String) (o : Option D) (k : Prop) : Prop := match o with
  | some d => tyD T d = true ∧ k
  | none => False
theorem tyK.of {T : String} {o : Option D} {k : Prop} (h : tyK T o k) : ∃ d, o = some d ∧ tyD T d = true ∧ k := by
  cases o with
  | none => exact h.elim
  | some d => exact ⟨d, rfl, h.1, h.2⟩
def tMth (T : String) (f : MpF) (Ta : TEp) (TA : TAp) : TEp := fun ρ R E => Ta ρ (fun r ρ1 => nA r <| tyK T (vw ρ1 r) <| TA ρ1 (fun rs ρ2 => fzK ρ2 rs fun ds ρ3 => oD (vw ρ3 r) fun d => f d ds fun ct => R (.va ct) ρ3) E) E
section
variable {name : Str} {apos : Pos} {id Ty : String} {r : V → List V → Hp → VK → Prop} {f : MpF}
theorem p_mth (pa : PlainAttrs Ty) (slot : Slot Ty name id) (hty : typeOf (.builtin id) = pure (.type "method_descriptor")) (hm : MtR X id r) (ok : MpOk c f r) (ho : PEp c ek fl X a Ta) (ha : PAp c ek fl X (e :: es) TA) (hK : X.K = c.K := by rfl)
    (hbase : attributeBase a name X.env (eval a X.env) = eval a X.env := by rfl)
    (hfew : ((backTo pos (starEach (e :: es) X.env)).all (fun x => !x.1) && (backToKw pos (keywordEach [] X.env)).all (fun x => x.1.isSome) && decide ((e :: es).length + ([] : List Keyword).length + (if ([] : List Keyword).isEmpty then 0 else 1) < 30)) = true := by rfl)
    (hline : (apos.endLine == pos.line) = true := by rfl) (hs : starEach (e :: es) X.env = (false, eval e X.env) :: starEach es X.env := by rfl) (hplain : (backTo pos (starEach es X.env)).any (·.1) = false := by rfl) :
    PEp c ek fl X (.Call (.Attribute a name apos) (e :: es) [] pos) (tMth Ty f Ta TA) := by
  refine ⟨fun pins s σ H Q I h => ?_⟩
  obtain ⟨ρ, τ, R0, E0, S, hT, hQ, hE⟩ := h
  refine (pe_bm pa slot hty hm ho ha hbase hfew hline hs hplain).run pins s σ H Q I ⟨ρ, τ, _, E0, S, hT, fun r1 ρ1 v H1 h1 S1 => ?_, hE⟩
  obtain ⟨h1, n⟩ := h1.of
  obtain ⟨d1, e1, t1, h1⟩ := h1.of
  refine ⟨?_, ρ1, _, _, E0, S1, h1, fun rs ρ2 ws H2 h2 hl S2 => ?_, hE.1, fun z => n (hE.2 z)⟩
  · obtain ⟨O, S1⟩ := S1
    rw [hK]
    exact tyD_ok (S1.vw e1) t1
  · obtain ⟨ds, ρ3, e3, h3⟩ := h2.of
    obtain ⟨O2, S2⟩ := S2
    obtain ⟨O3, S3, r3, _⟩ := fzL_ok hl S2 e3
    obtain ⟨d, e4, h4⟩ := h3.of
    exact ok σ ρ3 τ O3 H2 v ws d ds Q _ S3.pop (S3.vw e4) r3 h4 fun ct w H' k1 S' => hQ _ _ _ _ k1 S'
def tMth0 (T : String) (f : MpF) (Ta : TEp) : TEp := fun ρ R E => Ta ρ (fun r ρ1 => oD (vw ρ1 r) fun d => tyD T d = true ∧ f d [] fun ct => R (.va ct) ρ1) E
theorem p_mth0 (pa : PlainAttrs Ty) (slot : Slot Ty name id) (hty : typeOf (.builtin id) = pure (.type "method_descriptor")) (hm : MtR X id r) (ok : MpOk c f r) (ho : PEp c ek fl X a Ta) (hK : X.K = c.K := by rfl)
    (hbase : attributeBase a name X.env (eval a X.env) = eval a X.env := by rfl) (hline : (apos.endLine == pos.line) = true := by rfl) : PEp c ek fl X (.Call (.Attribute a name apos) [] [] pos) (tMth0 Ty f Ta) := by
  refine ⟨fun pins s σ H Q I h => ?_⟩
  obtain ⟨ρ, τ, R0, E0, S, hT, hQ, hE⟩ := h
  refine (pe_bm0 pa slot hty hm ho hbase hline).run pins s σ H Q I ⟨ρ, τ, _, E0, S, hT, fun r1 ρ1 v H1 h1 S1 => ?_, hE⟩
  obtain ⟨d, e1, t1, h1⟩ := h1.of
  obtain ⟨O, S1⟩ := S1
  exact ⟨by rw [hK]; exact tyD_ok (S1.vw e1) t1, ok σ ρ1 τ O H1 v [] d [] Q _ S1.pop (S1.vw e1) .nil h1 fun ct w H' k1 S' => hQ _ _ _ _ k1 S'⟩
end
def strs? : List D → Option (List Str)
  | [] => some []
  | .str i :: l => (strs? l).map (i :: ·)
  | _ :: _ => none
theorem strs_map : ∀ ns : List Str, strs? (ns.map .str) = some ns
  | [] => rfl
  | n :: ns => by show (strs? (ns.map .str)).map (n :: ·) = _; rw [strs_map ns]; rfl
theorem strs_of {K : PySem.W.Frag} {A : Av} : ∀ {l : List D} {vs : List V} {ns : List Str}, Rps K H A l vs → strs? l = some ns → vs = ns.map V.str
  | [], vs, ns, h, e => by unfold Rps at h; subst h; cases e; rfl
  | d :: l, vs, ns, h, e => by
    obtain ⟨v, r, rfl, h1, h2⟩ := h
    cases d with
    | str i =>
      unfold strs? at e
      cases q : strs? l with
      | none => rw [q] at e; cases e
      | some ms =>
        rw [q] at e; cases e
        rw [h1.top.str, strs_of h2 q]; rfl
    | _ => unfold strs? at e; cases e
/-- l.index(x), texts -/
def fIndex : MpF := fun d ds Q => match d, ds with
  | .lst l, [.str x] => oD (strs? l) fun xs => ∃ j, xs[j]? = some x ∧ (∀ m, m < j → xs[m]? ≠ some x) ∧ Q (Fz (.int (j : Nat)))
  | _, _ => False
theorem index_ok (hK : X.K = c.K) : MpOk c fIndex (rIndex X.K) := by
  intro σ ρ τ O H v ws d ds Q K0 S hv rd h hQ
  unfold fIndex at h
  split at h
  · rename_i l x
    obtain ⟨w, r, rfl, r1, r2⟩ := rd
    unfold Rps at r2; subst r2
    obtain ⟨xs, e1, j, e2, e3, h⟩ := h.of
    obtain ⟨p, vs, rfl, q, rl⟩ := hv.lst
    have ev := strs_of rl e1
    subst ev
    have hw : w = .str x := r1.top.str
    subst hw
    refine ⟨p, _, .str x, j, .str x, rfl, rfl, SqL.of q, rfl, ?_, by rw [List.getElem?_map, e2]; rfl, by show (x == x) = true; simp, fun m z' hm hz => ?_, hQ _ _ _ h (Sim.pushFz ⟨O, S⟩ fun A => Rp.ofInt _)⟩
    · rw [List.all_map, List.all_eq_true]; intro y _; rfl
    · rw [List.getElem?_map] at hz
      obtain ⟨y, y1, y2⟩ := Option.map_eq_some_iff.mp hz
      subst y2
      have := e3 m hm
      show (y == x) = false
      by_cases hyx : y = x
      · subst hyx; exact absurd y1 this
      · simp [hyx]
  · exact h.elim
/-! their equations -/
variable {Rr : R → En → Prop} {Ee : Exn → En → Prop} {Ty : String} {f : MpF} {k : Prop}
theorem e_mth : tMth Ty f Ta TA ρ Rr Ee = Ta ρ (fun r ρ1 => nA r (tyK Ty (vw ρ1 r) (TA ρ1 (fun rs ρ2 => fzK ρ2 rs fun ds ρ3 => oD (vw ρ3 r) fun d => f d ds fun ct => Rr (.va ct) ρ3) Ee))) Ee := rfl
theorem e_mth0 : tMth0 Ty f Ta ρ Rr Ee = Ta ρ (fun r ρ1 => oD (vw ρ1 r) fun d => tyD Ty d = true ∧ f d [] fun ct => Rr (.va ct) ρ1) Ee := rfl
theorem tyK_lst {l : List D} : tyK "list" (some (.lst l)) k = k := propext ⟨fun h => h.2, fun h => ⟨rfl, h⟩⟩
theorem tyK_str {x : Str} : tyK "str" (some (.str x)) k = k := propext ⟨fun h => h.2, fun h => ⟨rfl, h⟩⟩
theorem tyD_lst {l : List D} : tyD "list" (.lst l) = true := rfl
theorem tyD_str {x : Str} : tyD "str" (.str x) = true := rfl
theorem f_index {l : List D} {x : Str} {Q : Ct → Prop} : fIndex (.lst l) [.str x] Q = oD (strs? l) fun xs => ∃ j, xs[j]? = some x ∧ (∀ m, m < j → xs[m]? ≠ some x) ∧ Q (Fz (.int (j : Nat))) := rfl
end
end Pm

namespace Pm
open PySem PySem.Spec PyProof.Rows L2
section
variable {c : Cc} {O O' : Ow} {H H' : Hp} {ρ ρ' : En} {τ τ' : List (V × R)} {σ σ' : St} {v : V} {ℓ ℓ' : Lab} {ct : Ct} {X : Cx} {ek : EK} {fl : Bool}
/-! ### comprehensions with two fors -/
theorem TOk.up {p : Addr} {o u : HO} {m : Option Str} {τ : List (V × R)} {x y : V × R} (ex : Ext c (fun l a => l = (.t τ.length, m) ∧ a = p) O O' H H') (hy : TOk c H' O' σ (y :: τ)) : ∀ {τ1 : List (V × R)}, TOk c H O σ (τ1 ++ x :: τ) → TOk c H' O' σ (τ1 ++ y :: τ)
  | [], _ => hy
  | (v, .al i) :: τ1, h => ⟨h.1, TOk.up (u := u) (o := o) ex hy h.2⟩
  | (v, .alf i f) :: τ1, h => by
    obtain ⟨⟨z, C, dx, vfs, hb, e1, o1, e2, e3⟩, h2⟩ := h
    obtain ⟨u2, eu⟩ := e2.get
    obtain ⟨o', e2'⟩ := ex.hO z _ _ o1 (fun k => by cases k.1) eu
    exact ⟨⟨z, C, dx, vfs, hb, e1, o', by rw [e2', ← eu]; exact e2, e3⟩, TOk.up (u := u) (o := o) ex hy h2⟩
  | (v, .va ct) :: τ1, h => ⟨by
      have h1 := h.1
      have el : (τ1.append (x :: τ)).length = (τ1.append (y :: τ)).length := by show (τ1 ++ x :: τ).length = (τ1 ++ y :: τ).length; simp
      rw [el] at h1
      have e2 : (τ1.append (y :: τ)).length = τ1.length + (τ.length + 1) := by
        show (τ1 ++ y :: τ).length = _
        simp
      refine COk.mono ex (fun m' a k => ?_) h1
      have k1 := k.1
      simp only [Prod.mk.injEq, Lab.t.injEq] at k1
      omega, TOk.up (u := u) (o := o) ex hy h.2⟩
theorem Sim0.appMid {τ1 : List (V × R)} {D' : Addr} {l : List D} {d : D} (S : Sim0 c H O ρ (τ1 ++ (.ref D', .va (Wl l)) :: τ) σ) (r : Rp c.K H (c.av O) d v) : ∃ vs, H D' = some (.lst vs) ∧ vs.length = l.length ∧ Sim0 c (upd H D' (.lst (vs ++ [v]))) O ρ (τ1 ++ (.ref D', .va (Wl (l ++ [d]))) :: τ) σ := by
  have tm := S.tm.app
  obtain ⟨a, vs, e, o, ha, rr⟩ := tm.1
  cases e
  have ex := Ext.wr (c := c) (O := O) (o := .lst (vs ++ [v])) ha True.intro o
  obtain ⟨w1, w2, w3⟩ := S.wr (o := .lst (vs ++ [v])) ha o True.intro
  refine ⟨vs, ha, rr.length, S.len, w1, w2, w3, S.io, fun i ct q n => ?_, ?_⟩
  · obtain ⟨w, e1, e2⟩ := S.sl i ct q n
    exact ⟨w, e1, e2.mono ex (fun m b z => by cases z.1)⟩
  · refine TOk.up (x := (.ref D', .va (Wl l))) (u := .lst vs) (o := .lst vs) ex ?_ S.tm
    exact ⟨⟨D', _, rfl, o, upd_same, ex.rps (rr.app (.one r))⟩, tm.2.mono ex (fun k m b hk z => by cases z.1; omega) (fun w i f m x C dx vfs hx z => by cases z.1)⟩
def lcI (g : Tg) (tt : TTp) (te : TEp) (own : List Nat) (E : Exn → En → Prop) (K : List D → En → Prop) : List D → List D → En → Prop
  | [], acc, ρ => K acc ρ
  | d :: ds, acc, ρ => match tgK g d (wipeE ρ own) with
    | some ρ2 => tt ρ2 (fun b ρ3 => if b = true then te ρ3 (fun r ρ4 => match fzC ρ4 r with
        | some (dy, ρ5) => acc.length < sizeLine ∧ lcI g tt te own E K ds (acc ++ [dy]) (wipeE ρ5 own)
        | none => False) E else lcI g tt te own E K ds acc (wipeE ρ3 own)) E
    | none => False
def lcK2 (g : Tg) (tt : TTp) (TI1 : TIp') (g1 : Tg) (tt1 : TTp) (te : TEp) (own own1 : List Nat) (E : Exn → En → Prop) (R : R → En → Prop) : List D → List D → En → Prop
  | [], acc, ρ => R (.va (Wl acc)) ρ
  | d :: ds, acc, ρ => match tgK g d (wipeE ρ own) with
    | some ρ2 => tt ρ2 (fun b ρ3 => if b = true then TI1 ρ3 (fun ds1 ρ4 => lcI g1 tt1 te own1 E (fun acc ρ5 => lcK2 g tt TI1 g1 tt1 te own own1 E R ds acc (wipeE ρ5 own)) ds1 acc (wipeE ρ4 own1)) E else lcK2 g tt TI1 g1 tt1 te own own1 E R ds acc (wipeE ρ3 own)) E
    | none => False
def tLcc (TI : TIp') (g : Tg) (tt : TTp) (TI1 : TIp') (g1 : Tg) (tt1 : TTp) (te : TEp) (own own1 : List Nat) : TEp := fun ρ R E => TI ρ (fun ds ρ1 => lcK2 g tt TI1 g1 tt1 te own own1 E R ds [] (wipeE ρ1 own)) E
theorem lc_rd2 {TI TI1 : TIp'} {g g1 : Tg} {tt tt1 : TTp} {te : TEp} {own own1 : List Nat} {Q : VK} (hown : ∀ i ∈ own, c.nb ≤ i) (hlk : ∀ i ∈ own, i ∉ c.lock) (hsub : ∀ i ∈ own1, i ∈ own) (hg : ∀ i ∈ g.sl, i ∈ own) (hg1 : ∀ i ∈ g1.sl, i ∈ own1) (hek : ∀ E0 σ σ', ek E0 σ → ek E0 σ')
    (h : rd c ek fl (tLcc TI g tt TI1 g1 tt1 te own own1) σ H Q) : tLc2 (rdI c ek fl TI) (rdG c g) (rdT c ek fl tt) (rdI c ek fl TI1) (rdG c g1) (rdT c ek fl tt1) (rd c ek fl te) own own1 σ H Q := by
  obtain ⟨ρ, τ, R0, E0, S, hT, hQ, hE⟩ := h
  have hown1 : ∀ i ∈ own1, c.nb ≤ i := fun i hi => hown i (hsub i hi)
  have hlk1 : ∀ i ∈ own1, i ∉ c.lock := fun i hi => hlk i (hsub i hi)
  refine ⟨ρ, τ, _, _, S, hT, fun ds ρ1 J H1 τi h1 hJ ni S1 => ?_, hE⟩
  intro D hD
  have nalf2 : fl = true → NoAlf ((V.ref D, R.va (Wl [])) :: (τi ++ τ)) := fun z w i f m => by
    rcases List.mem_cons.mp m with e | m
    · cases e
    · rcases List.mem_append.mp m with m | m
      · obtain ⟨ct, e⟩ := ni w _ m; cases e
      · exact hE.2 z w i f m
  have nalf3 : ∀ acc, fl = true → NoAlf ((V.ref D, R.va (Wl acc)) :: (τi ++ τ)) := fun acc z w i f m => by
    rcases List.mem_cons.mp m with e | m
    · cases e
    · exact nalf2 z w i f (List.mem_cons_of_mem _ m)
  refine ⟨fun i m H => m = ds.length - i ∧ i ≤ ds.length ∧ ∃ ρ acc, Sim c ρ ((.ref D, .va (Wl acc)) :: (τi ++ τ)) (wipe σ own) H ∧ (∀ j ∈ own, ∀ ct, ρ[j]? = some ct → ct = .no) ∧ lcK2 g tt TI1 g1 tt1 te own own1 E0 R0 (ds.drop i) acc ρ,
    ⟨ds.length, by simp, Nat.zero_le _, wipeE ρ1 own, [], ?_, fun j hj ct q => wipeE_in hj ct q, h1⟩, ?_⟩
  · obtain ⟨O, S1⟩ := S1
    obtain ⟨O2, S2⟩ := S1.newLst hD Rps.nil
    exact ⟨O2, S2.wipe hown hlk (wipe_length σ own) (fun i hi => wipe_outS hi)⟩
  · rintro i m H2 ⟨rfl, hi, ρ2, acc, S2, hno, hk⟩
    obtain ⟨j1, j2⟩ := hJ (wipe σ own) H2 ρ2 [(.ref D, .va (Wl acc))] τ i S2
    by_cases hlt : i < ds.length
    · have hd : ds[i]? = some ds[i] := List.getElem?_eq_getElem hlt
      obtain ⟨jg, jy⟩ := j1 _ hd
      rw [List.drop_eq_getElem_cons hlt] at hk
      unfold lcK2 at hk
      refine .inr ⟨jg, fun H' => ∃ ρ acc, Sim c ρ ((.ref D, .va (Wl acc)) :: (τi ++ τ)) (wipe σ own) H' ∧ (∀ j ∈ own, ∀ ct, ρ[j]? = some ct → ct = .no) ∧ lcK2 g tt TI1 g1 tt1 te own own1 E0 R0 (ds.drop (i + 1)) acc ρ, fun H' hN => ⟨ds.length - (i + 1), by omega, rfl, hlt, hN⟩, fun x H' y => ?_⟩
      obtain ⟨O, S3, rp⟩ := jy x H' y
      split at hk
      · rename_i ρ' e1
        refine ⟨wipeE ρ2 own, _, ds[i], ρ', O, S3.wipe hown hlk rfl (fun _ _ => rfl), .inr (fun j hj => hown j (hg j hj)), rp, e1, fun σ2 agr S4 => ⟨wipe_agr agr hg, ?_⟩⟩
        have back : ∀ {ρ5 : En} {H5 : Hp} {O5 : Ow} {acc : List Pm.D}, Sim0 c H5 O5 ρ5 ((.ref D, .va (Wl acc)) :: (τi ++ τ)) σ2 → Sim0 c H5 O5 (wipeE ρ5 own) ((.ref D, .va (Wl acc)) :: (τi ++ τ)) (wipe σ own) := fun {ρ5 H5 O5 acc} S =>
          S.wipe hown hlk agr.1.symm (fun j hj => (agr.2 j (fun z => hj (hg j z))).symm)
        have back1 : ∀ {ρ5 : En} {H5 : Hp} {O5 : Ow} {acc : List Pm.D}, Sim0 c H5 O5 ρ5 ((.ref D, .va (Wl acc)) :: (τi ++ τ)) (wipe σ2 own1) → Sim0 c H5 O5 (wipeE ρ5 own) ((.ref D, .va (Wl acc)) :: (τi ++ τ)) (wipe σ own) := fun {ρ5 H5 O5 acc} S =>
          S.wipe hown hlk (by rw [wipe_length σ2 own1]; exact agr.1.symm) (fun j hj => by rw [wipe_outS (σ := σ2) (fun z => hj (hsub j z))]; exact (agr.2 j (fun z => hj (hg j z))).symm)
        refine ⟨ρ', _, _, E0, ⟨O, S4⟩, hk, fun b ρ3 H3 h3 S5 => ?_, hek _ _ _ hE.1, nalf3 acc⟩
        cases b with
        | true =>
          rw [if_pos rfl] at h3 ⊢
          refine ⟨ρ3, _, _, E0, S5, h3, fun ds1 ρ4 J1 H4 τi1 h4 hJ1 ni1 S6 => ?_, hek _ _ _ hE.1, nalf3 acc⟩
          have nalf4 : ∀ acc, fl = true → NoAlf (τi1 ++ (V.ref D, R.va (Wl acc)) :: (τi ++ τ)) := fun acc z w i f m => by
            rcases List.mem_append.mp m with m | m
            · obtain ⟨ct, e⟩ := ni1 w _ m; cases e
            · exact nalf3 acc z w i f m
          refine ⟨fun j k H => k = ds1.length - j ∧ j ≤ ds1.length ∧ ∃ ρ acc, Sim c ρ (τi1 ++ (.ref D, .va (Wl acc)) :: (τi ++ τ)) (wipe σ2 own1) H ∧ lcI g1 tt1 te own1 E0 (fun acc ρ5 => lcK2 g tt TI1 g1 tt1 te own own1 E0 R0 (ds.drop (i + 1)) acc (wipeE ρ5 own)) (ds1.drop j) acc ρ,
            ⟨ds1.length, by simp, Nat.zero_le _, wipeE ρ4 own1, acc, ?_, h4⟩, ?_⟩
          · obtain ⟨O6, S6⟩ := S6
            exact ⟨O6, S6.wipe hown1 hlk1 (wipe_length σ2 own1) (fun i hi => wipe_outS hi)⟩
          · rintro j k H5 ⟨rfl, hj, ρ5, acc5, S7, hk5⟩
            obtain ⟨l1, l2⟩ := hJ1 (wipe σ2 own1) H5 ρ5 [] ((.ref D, .va (Wl acc5)) :: (τi ++ τ)) j S7
            by_cases hlt1 : j < ds1.length
            · have hd1 : ds1[j]? = some ds1[j] := List.getElem?_eq_getElem hlt1
              obtain ⟨lg, ly⟩ := l1 _ hd1
              rw [List.drop_eq_getElem_cons hlt1] at hk5
              unfold lcI at hk5
              refine .inr ⟨lg, fun H' => ∃ ρ acc, Sim c ρ (τi1 ++ (.ref D, .va (Wl acc)) :: (τi ++ τ)) (wipe σ2 own1) H' ∧ lcI g1 tt1 te own1 E0 (fun acc ρ5 => lcK2 g tt TI1 g1 tt1 te own own1 E0 R0 (ds.drop (i + 1)) acc (wipeE ρ5 own)) (ds1.drop (j + 1)) acc ρ, fun H' hN => ⟨ds1.length - (j + 1), by omega, rfl, hlt1, hN⟩, fun x H' y => ?_⟩
              obtain ⟨O8, S8, rp8⟩ := ly x H' y
              split at hk5
              · rename_i ρ9 e9
                refine ⟨wipeE ρ5 own1, _, ds1[j], ρ9, O8, S8.wipe hown1 hlk1 rfl (fun _ _ => rfl), .inr (fun j hj => hown1 j (hg1 j hj)), rp8, e9, fun σ3 agr3 S9 => ⟨wipe_agr agr3 hg1, ?_⟩⟩
                have backI : ∀ {ρ6 : En} {H6 : Hp} {O6 : Ow} {τz : List (V × R)}, Sim0 c H6 O6 ρ6 τz σ3 → Sim0 c H6 O6 (wipeE ρ6 own1) τz (wipe σ2 own1) := fun {ρ6 H6 O6 τz} S =>
                  S.wipe hown1 hlk1 agr3.1.symm (fun j hj => (agr3.2 j (fun z => hj (hg1 j z))).symm)
                refine ⟨ρ9, _, _, E0, ⟨O8, S9⟩, hk5, fun b ρ10 H10 h10 S10 => ?_, hek _ _ _ hE.1, nalf4 acc5⟩
                cases b with
                | true =>
                  rw [if_pos rfl] at h10 ⊢
                  refine ⟨ρ10, _, _, E0, S10, h10, fun r ρ11 y H11 h11 S11 => ?_, hek _ _ _ hE.1, nalf4 acc5⟩
                  obtain ⟨O11, S11⟩ := S11
                  split at h11
                  · rename_i dy ρ12 e12
                    obtain ⟨O12, S12, r12, _⟩ := fzC_ok S11 e12
                    obtain ⟨vs, hv, hl, S13⟩ := S12.appMid r12
                    exact ⟨vs, hv, by rw [hl]; exact h11.1, _, _, ⟨_, backI S13⟩, h11.2⟩
                  · exact h11.elim
                | false =>
                  rw [if_neg Bool.false_ne_true] at h10 ⊢
                  obtain ⟨O11, S11⟩ := S10
                  exact ⟨_, acc5, ⟨_, backI S11⟩, h10⟩
              · exact hk5.elim
            · have e : j = ds1.length := by omega
              subst e
              rw [List.drop_length] at hk5
              unfold lcI at hk5
              refine .inl ⟨l2 (Nat.le_refl _), ?_⟩
              obtain ⟨O8, S8⟩ := S7
              have S9 : Sim0 c H5 O8 ρ5 ((.ref D, .va (Wl acc5)) :: (τi ++ τ)) (wipe σ2 own1) := ⟨S8.len, S8.fr, S8.ow, S8.zt, S8.io, S8.sl, S8.tm.app⟩
              exact ⟨_, acc5, ⟨_, back1 S9⟩, fun j hj ct q => wipeE_in hj ct q, hk5⟩
        | false =>
          rw [if_neg Bool.false_ne_true] at h3 ⊢
          obtain ⟨O5, S5⟩ := S5
          exact ⟨_, acc, ⟨_, back S5⟩, fun j hj ct q => wipeE_in hj ct q, h3⟩
      · exact hk.elim
    · have e : i = ds.length := by omega
      subst e
      rw [List.drop_length] at hk
      unfold lcK2 at hk
      refine .inl ⟨j2 (Nat.le_refl _), hQ _ _ _ _ hk (Sim.mid (τi := τi) ?_)⟩
      obtain ⟨O, S2⟩ := S2
      have := S2.wipe (σ' := σ) hown hlk (wipe_length σ own).symm (fun j hj => (wipe_outS hj).symm)
      rw [wipeE_eq hno] at this
      exact ⟨O, this⟩
end
section
variable {c : Cc} {X : Cx} {ek : EK} {fl : Bool} {ρ : En} {d : D} {t t1 : TTp} {Te : TEp} {Rr : R → En → Prop} {Ee : Exn → En → Prop}
variable {elt tg iter tg1 iter1 : Expr} {ifs ifs1 : List Expr} {scope : Scope} {own : List (Str × Nat)} {own1 : List Nat} {TI TI1 : TIp'} {g g1 : Tg} {tt tt1 : TTp} {pos : Pos}
theorem p_lc2 (hc : X.calm = true) (hN : X.N.Nodup) (hi : PIp' c ek0 fl X tg iter TI) (ok : BlkOk X.N X.env.scope scope own) (hown : ∀ i ∈ own.map (·.2), c.nb ≤ i) (hlk : ∀ i ∈ own.map (·.2), i ∉ c.lock) (hv : ∀ i ∈ own1, i ∈ own.map (·.2)) (hsl : ∀ i ∈ g.sl, i ∈ own.map (·.2)) (hsl1 : ∀ i ∈ g1.sl, i ∈ own1)
    (hg : ∀ (s : Shared) (H : Hp) (C : Addr) (cl : List (Str × Addr)) (fp : List Addr), PGp c (X.blk s H scope (compEnvC scope cl C X.env) fp) tg g) (ht : ∀ (s : Shared) (H : Hp) (C : Addr) (cl : List (Str × Addr)) (fp : List Addr), PTsp c ek0 fl (X.blk s H scope (compEnvC scope cl C X.env) fp) ifs tt)
    (hi1 : ∀ (s : Shared) (H : Hp) (C : Addr) (cl : List (Str × Addr)) (fp : List Addr), PIp' c ek0 fl (X.blk s H scope (compEnvC scope cl C X.env) fp) tg1 iter1 TI1)
    (hg1 : ∀ (s : Shared) (H : Hp) (C : Addr) (cl : List (Str × Addr)) (fp : List Addr), PGp c (X.blk s H scope (compEnvC scope cl C X.env) fp) tg1 g1) (ht1 : ∀ (s : Shared) (H : Hp) (C : Addr) (cl : List (Str × Addr)) (fp : List Addr), PTsp c ek0 fl (X.blk s H scope (compEnvC scope cl C X.env) fp) ifs1 tt1)
    (he : ∀ (s : Shared) (H : Hp) (C : Addr) (cl : List (Str × Addr)) (fp : List Addr), PEp c ek0 fl (X.blk s H scope (compEnvC scope cl C X.env) fp) elt Te) (hs : ∀ x, foldedSetIterable iter X.env x = pure x := by intro _; rfl) (hs1 : ∀ env x, foldedSetIterable iter1 env x = pure x := by intro _ _; rfl) :
    PEp c ek0 fl X (.ListComp elt [⟨tg, iter, ifs, 0⟩, ⟨tg1, iter1, ifs1, 0⟩] scope pos) (tLcc TI g tt TI1 g1 tt1 Te (own.map (·.2)) own1) :=
  ⟨fun pins s σ H Q I h => (pe_lc2 hc hN hi ok hv hg ht hi1 hg1 ht1 he hs hs1).run pins s σ H Q I (lc_rd2 hown hlk hv hsl hsl1 ek0_any h)⟩
theorem s_setLc2 (j : Nat) {y : Str} {py spos : Pos} (hc : X.calm = true) (hN : X.N.Nodup) (hj : j ∉ c.lock) (hi : PIp' c ek0 true X tg iter TI) (ok : BlkOk X.N X.env.scope scope own) (hown : ∀ i ∈ own.map (·.2), c.nb ≤ i) (hlk : ∀ i ∈ own.map (·.2), i ∉ c.lock) (hv : ∀ i ∈ own1, i ∈ own.map (·.2)) (hsl : ∀ i ∈ g.sl, i ∈ own.map (·.2)) (hsl1 : ∀ i ∈ g1.sl, i ∈ own1)
    (hg : ∀ (s : Shared) (H : Hp) (C : Addr) (cl : List (Str × Addr)) (fp : List Addr), PGp c (X.blk s H scope (compEnvC scope cl C X.env) fp) tg g) (ht : ∀ (s : Shared) (H : Hp) (C : Addr) (cl : List (Str × Addr)) (fp : List Addr), PTsp c ek0 true (X.blk s H scope (compEnvC scope cl C X.env) fp) ifs tt)
    (hi1 : ∀ (s : Shared) (H : Hp) (C : Addr) (cl : List (Str × Addr)) (fp : List Addr), PIp' c ek0 true (X.blk s H scope (compEnvC scope cl C X.env) fp) tg1 iter1 TI1)
    (hg1 : ∀ (s : Shared) (H : Hp) (C : Addr) (cl : List (Str × Addr)) (fp : List Addr), PGp c (X.blk s H scope (compEnvC scope cl C X.env) fp) tg1 g1) (ht1 : ∀ (s : Shared) (H : Hp) (C : Addr) (cl : List (Str × Addr)) (fp : List Addr), PTsp c ek0 true (X.blk s H scope (compEnvC scope cl C X.env) fp) ifs1 tt1)
    (he : ∀ (s : Shared) (H : Hp) (C : Addr) (cl : List (Str × Addr)) (fp : List Addr), PEp c ek0 true (X.blk s H scope (compEnvC scope cl C X.env) fp) elt Te) (hy : X.N[j]? = some y := by rfl) (hyl : X.env.scope.names.lookup y = some .local := by rfl)
    (hsw : swapsWith (.ListComp elt [⟨tg, iter, ifs, 0⟩, ⟨tg1, iter1, ifs1, 0⟩] scope pos) (some (.Name y py)) spos.line X.env = pure true) (hs : ∀ x, foldedSetIterable iter X.env x = pure x := by intro _; rfl) (hs1 : ∀ env x, foldedSetIterable iter1 env x = pure x := by intro _ _; rfl) :
    PSp c ek0 X (.Assign [.Name y py] (.ListComp elt [⟨tg, iter, ifs, 0⟩, ⟨tg1, iter1, ifs1, 0⟩] scope pos) spos) (sSet j (tLcc TI g tt TI1 g1 tt1 Te (own.map (·.2)) own1)) := by
  refine ⟨fun pins s σ H D I h => ?_⟩
  obtain ⟨ρ, τ, E, S, n, hT, q1, q2, q3, q4, q5⟩ := h
  refine (ps_setLc2 hc hN hy hyl hsw hi ok hv hg ht hi1 hg1 ht1 he hs hs1).run pins s σ H D I (lc_rd2 hown hlk hv hsl hsl1 ek0_any ⟨ρ, τ, _, _, S, hT, fun r ρ' v H' h1 S1 => ?_, q5 σ, fun _ => n.alf⟩)
  obtain ⟨ct, ρ2, h2, O, S2⟩ := stC_ok S1 h1
  exact q1 _ _ _ h2 (S2.put n hj)
theorem s_setLc2B (j : Nat) {y : Str} {py spos : Pos} (hc : X.calm = true) (hN : X.N.Nodup) (hj : j ∉ c.lock) (hi : PIp' c ek0 true X tg iter TI) (ok : BlkOk X.N X.env.scope scope own) (hown : ∀ i ∈ own.map (·.2), c.nb ≤ i) (hlk : ∀ i ∈ own.map (·.2), i ∉ c.lock) (hv : ∀ i ∈ own1, i ∈ own.map (·.2)) (hsl : ∀ i ∈ g.sl, i ∈ own.map (·.2)) (hsl1 : ∀ i ∈ g1.sl, i ∈ own1)
    (hg : ∀ (s : Shared) (H : Hp) (C : Addr) (cl : List (Str × Addr)) (fp : List Addr), PGp c (X.blk s H scope (compEnvC scope cl C X.env) fp) tg g) (ht : ∀ (s : Shared) (H : Hp) (C : Addr) (cl : List (Str × Addr)) (fp : List Addr), PTsp c ek0 true (X.blk s H scope (compEnvC scope cl C X.env) fp) ifs tt)
    (hi1 : ∀ (s : Shared) (H : Hp) (C : Addr) (cl : List (Str × Addr)) (fp : List Addr), PIp' c ek0 true (X.blk s H scope (compEnvC scope cl C X.env) fp) tg1 iter1 TI1)
    (hg1 : ∀ (s : Shared) (H : Hp) (C : Addr) (cl : List (Str × Addr)) (fp : List Addr), PGp c (X.blk s H scope (compEnvC scope cl C X.env) fp) tg1 g1) (ht1 : ∀ (s : Shared) (H : Hp) (C : Addr) (cl : List (Str × Addr)) (fp : List Addr), PTsp c ek0 true (X.blk s H scope (compEnvC scope cl C X.env) fp) ifs1 tt1)
    (he : ∀ (s : Shared) (H : Hp) (C : Addr) (cl : List (Str × Addr)) (fp : List Addr), PEp c ek0 true (X.blk s H scope (compEnvC scope cl C X.env) fp) elt Te) (hy : X.N[j]? = some y := by rfl) (hyl : X.env.scope.names.lookup y = some .local := by rfl) (hs : ∀ x, foldedSetIterable iter X.env x = pure x := by intro _; rfl) (hs1 : ∀ env x, foldedSetIterable iter1 env x = pure x := by intro _ _; rfl) :
    PSp c ek0 X (.Assign [.Name y py] (.ListComp elt [⟨tg, iter, ifs, 0⟩, ⟨tg1, iter1, ifs1, 0⟩] scope pos) spos) (sSet j (tLcc TI g tt TI1 g1 tt1 Te (own.map (·.2)) own1)) := by
  rcases sw_or (elt := elt) (gs := [⟨tg, iter, ifs, 0⟩, ⟨tg1, iter1, ifs1, 0⟩]) (scope := scope) (pos := pos) (py := py) (y := y) (l := spos.line) (env := X.env) with h | h
  · exact s_setLc2 j hc hN hj hi ok hown hlk hv hsl hsl1 hg ht hi1 hg1 ht1 he hy hyl h hs hs1
  · exact s_set j hN (p_lc2 hc hN hi ok hown hlk hv hsl hsl1 hg ht hi1 hg1 ht1 he hs hs1) hj hy (.inl hyl) h (.inr hyl)
/-! their equations -/
theorem e_lcc {own : List Nat} : tLcc TI g t TI1 g1 t1 Te own own1 ρ Rr Ee = TI ρ (fun ds ρ1 => lcK2 g t TI1 g1 t1 Te own own1 Ee Rr ds [] (wipeE ρ1 own)) Ee := rfl
theorem lcI_nil {K : List D → En → Prop} {acc : List D} : lcI g1 t1 Te own1 Ee K [] acc ρ = K acc ρ := rfl
theorem lcI_cons {K : List D → En → Prop} {acc ds : List D} : lcI g1 t1 Te own1 Ee K (d :: ds) acc ρ = oD (tgK g1 d (wipeE ρ own1)) fun ρ2 => t1 ρ2 (fun b ρ3 => if b = true then Te ρ3 (fun r ρ4 => oD (fzC ρ4 r) fun p => acc.length < sizeLine ∧ lcI g1 t1 Te own1 Ee K ds (acc ++ [p.1]) (wipeE p.2 own1)) Ee else lcI g1 t1 Te own1 Ee K ds acc (wipeE ρ3 own1)) Ee := by
  show (match tgK g1 d (wipeE ρ own1) with | some ρ2 => _ | none => False) = oD _ _
  cases tgK g1 d (wipeE ρ own1) with
  | none => rfl
  | some ρ2 =>
    show t1 ρ2 _ Ee = t1 ρ2 _ Ee
    congr 1
    funext b ρ3
    split
    · congr 1
      funext r ρ4
      cases fzC ρ4 r <;> rfl
    · rfl
theorem lc2_nil {own : List Nat} {acc : List D} : lcK2 g t TI1 g1 t1 Te own own1 Ee Rr [] acc ρ = Rr (.va (Wl acc)) ρ := rfl
theorem lc2_cons {own : List Nat} {acc ds : List D} : lcK2 g t TI1 g1 t1 Te own own1 Ee Rr (d :: ds) acc ρ = oD (tgK g d (wipeE ρ own)) fun ρ2 => t ρ2 (fun b ρ3 => if b = true then TI1 ρ3 (fun ds1 ρ4 => lcI g1 t1 Te own1 Ee (fun acc ρ5 => lcK2 g t TI1 g1 t1 Te own own1 Ee Rr ds acc (wipeE ρ5 own)) ds1 acc (wipeE ρ4 own1)) Ee else lcK2 g t TI1 g1 t1 Te own own1 Ee Rr ds acc (wipeE ρ3 own)) Ee := by
  show (match tgK g d (wipeE ρ own) with | some ρ2 => _ | none => False) = oD _ _
  cases tgK g d (wipeE ρ own) <;> rfl
/-- a loop inside, by a yield for each -/
theorem lcI_pure {α : Type} {f : α → D} (h : α → List D) (ρ : En) (P : α → Prop) {K : List D → En → Prop}
    (step : ∀ (a : α) (acc : List D) (K' : List D → En → Prop), P a → acc.length < sizeLine → K' (acc ++ h a) ρ → oD (tgK g1 (f a) (wipeE ρ own1)) fun ρ2 => t1 ρ2 (fun b ρ3 => if b = true then Te ρ3 (fun r ρ4 => oD (fzC ρ4 r) fun p => acc.length < sizeLine ∧ K' (acc ++ [p.1]) (wipeE p.2 own1)) Ee else K' acc (wipeE ρ3 own1)) Ee)
    (h1 : ∀ a, (h a).length ≤ 1) :
    ∀ (l : List α) (acc : List D), (∀ a ∈ l, P a) → acc.length + l.length ≤ sizeLine → K (acc ++ l.flatMap h) ρ → lcI g1 t1 Te own1 Ee K (l.map f) acc ρ
  | [], acc, _, _, q => by rw [List.map_nil, lcI_nil]; simpa using q
  | a :: l, acc, hP, hl, q => by
    rw [List.map_cons, lcI_cons]
    rw [List.length_cons] at hl
    refine step a acc (fun acc ρ => lcI g1 t1 Te own1 Ee K (l.map f) acc ρ) (hP a List.mem_cons_self) (by omega) (lcI_pure h ρ P step h1 l (acc ++ h a) (fun x hx => hP x (List.mem_cons_of_mem _ hx)) ?_ ?_)
    · have := h1 a
      rw [List.length_append]; omega
    · rw [List.append_assoc]; exact q
/-- the loop outside, by invariants -/
theorem lc2_ind {α : Type} {f : α → D} {own : List Nat} (I : List α → List D → En → Prop)
    (step : ∀ (a : α) (l : List α) (acc : List D) (ρ : En) (K : List D → En → Prop), I (a :: l) acc ρ → (∀ acc' ρ', I l acc' ρ' → K acc' ρ') → oD (tgK g (f a) (wipeE ρ own)) fun ρ2 => t ρ2 (fun b ρ3 => if b = true then TI1 ρ3 (fun ds1 ρ4 => lcI g1 t1 Te own1 Ee (fun acc ρ5 => K acc (wipeE ρ5 own)) ds1 acc (wipeE ρ4 own1)) Ee else K acc (wipeE ρ3 own)) Ee)
    (fin : ∀ acc ρ, I [] acc ρ → Rr (.va (Wl acc)) ρ) :
    ∀ (l : List α) (acc : List D) (ρ : En), I l acc ρ → lcK2 g t TI1 g1 t1 Te own own1 Ee Rr (l.map f) acc ρ
  | [], acc, ρ, h => by rw [List.map_nil, lc2_nil]; exact fin acc ρ h
  | a :: l, acc, ρ, h => by
    rw [List.map_cons, lc2_cons]
    exact step a l acc ρ (fun acc ρ => lcK2 g t TI1 g1 t1 Te own own1 Ee Rr (l.map f) acc ρ) h fun acc' ρ' h' => lc2_ind I step fin l acc' ρ' h'
end
end Pm

namespace Pm
open PySem PySem.Spec PyProof.Rows L2
section
variable {c : Cc} {O O' : Ow} {H H' : Hp} {ρ ρ' : En} {τ τ' : List (V × R)} {σ σ' : St} {v : V} {X : Cx} {ek : EK} {fl : Bool} {e e2 : Expr} {TA : TAp} {pos : Pos}
/-! ### zip of two lists -/
def zpD : List D → List D → List D
  | x :: l, y :: m => .tup [x, y] :: zpD l m
  | _, _ => []
theorem zpD_get : ∀ {l m : List D} {i : Nat} {d : D}, (zpD l m)[i]? = some d → ∃ x y, l[i]? = some x ∧ m[i]? = some y ∧ d = .tup [x, y]
  | [], _, i, d, h => by simp [zpD] at h
  | _ :: _, [], i, d, h => by simp [zpD] at h
  | x :: l, y :: m, 0, d, h => by simp [zpD] at h; exact ⟨x, y, rfl, rfl, h.symm⟩
  | x :: l, y :: m, i + 1, d, h => by
    obtain ⟨a, b, h1, h2, h3⟩ := zpD_get (l := l) (m := m) (i := i) (by simpa [zpD] using h)
    exact ⟨a, b, by simpa using h1, by simpa using h2, h3⟩
theorem zpD_len : ∀ {l m : List D} {i : Nat}, (zpD l m).length ≤ i → l.length ≤ i ∨ m.length ≤ i
  | [], _, i, _ => .inl (by simp)
  | _ :: _, [], i, _ => .inr (by simp)
  | x :: l, y :: m, i, h => by
    simp only [zpD, List.length_cons] at h ⊢
    cases i with
    | zero => omega
    | succ i => rcases zpD_len (l := l) (m := m) (i := i) (by omega) with z | z <;> omega
def zpK (ds : List D) (k : List D → Prop) : Prop := match ds with
  | [.lst l, .lst m] => k (zpD l m)
  | _ => False
def iZp (TA : TAp) : TIp' := fun ρ K E => TA ρ (fun rs ρ1 => fzK ρ1 rs fun ds ρ2 => zpK ds fun l => K l ρ2) E
theorem zp_it {l m : List D} {a b : Addr} : ItOk c (Itz c.K a b) (zpD l m) [(.ref b, .va (Fz (.lst m))), (.ref a, .va (Fz (.lst l)))] := by
  intro σ H ρ τ0 τ i S
  obtain ⟨O, S⟩ := S
  have tm := S.tm.app
  have rb : Rp c.K H (c.av O) (.lst m) (.ref b) := tm.1
  have ra : Rp c.K H (c.av O) (.lst l) (.ref a) := tm.2.1
  obtain ⟨a', us, e1, ha, rra⟩ := ra.top.lst
  cases e1
  obtain ⟨b', ws, e1, hb, rrb⟩ := rb.top.lst
  cases e1
  refine ⟨fun d hd => ?_, fun hl => ⟨us, ws, SqL.of ha, SqL.of hb, ?_⟩⟩
  · obtain ⟨x, y, h1, h2, h3⟩ := zpD_get hd
    obtain ⟨u, hu, ru⟩ := rra.get h1
    obtain ⟨w, hw, rw'⟩ := rrb.get h2
    refine ⟨⟨us, ws, u, w, SqL.of ha, SqL.of hb, hu, hw⟩, fun x' H' y' => ?_⟩
    obtain ⟨t, u', w', ex, hn, eH, y1, y2⟩ := y'
    have y1 := y1 us (SqL.of ha)
    rw [hu] at y1; cases y1
    have y2 := y2 ws (SqL.of hb)
    rw [hw] at y2; cases y2
    subst ex eH h3
    have S2 := S.new (o := .tup [u, w]) (m := none) hn (fun z => absurd rfl z)
    refine ⟨_, S2, ?_⟩
    have ex := Ext.new (o := .tup [u, w]) (m := none) S hn
    unfold Rp
    exact ⟨t, _, rfl, SqT.of upd_same, .cons (ex.rp ru) (.one (ex.rp rw'))⟩
  · have l1 := rra.length
    have l2 := rrb.length
    have := zpD_len hl
    omega
theorem i_zip {tgs : List Expr} {kk : Nat} {tp p : Pos} (hm : X.mg "zip" = none) (ha : PAp c ek fl X [e, e2] TA) (hK : X.K = c.K := by rfl) (hg : Gl X "zip" := by rfl)
    (hs : starEach [e, e2] X.env = (false, eval e X.env) :: starEach [e2] X.env := by rfl) (hpl : (backTo pos (starEach [e2] X.env)).any (·.1) = false := by rfl) : PIp' c ek fl X (.Tuple tgs kk tp) (.Call (.Name "zip" p) [e, e2] [] pos) (iZp TA) := by
  refine ⟨fun pins s σ H Q I h => ?_⟩
  obtain ⟨ρ, τ, R0, E0, S, hT, q, q5⟩ := h
  refine (pi_zip hg hm ha hs hpl).run pins s σ H Q I ⟨ρ, τ, _, _, S, hT, fun rs ρ' vs H' h1 hl S1 => ?_, q5⟩
  obtain ⟨ds, ρ2, e2, h2⟩ := h1.of
  unfold zpK at h2
  split at h2
  · rename_i l m
    obtain ⟨O1, S1⟩ := S1
    obtain ⟨O2, S2, rr, _⟩ := fzL_ok hl S1 e2
    obtain ⟨v1, r1, rfl, rp1, rr⟩ := rr
    obtain ⟨v2, r2, rfl, rp2, rr⟩ := rr
    unfold Rps at rr; subst rr
    obtain ⟨a, us, rfl, ha, ra⟩ := rp1.top.lst
    obtain ⟨b, ws, rfl, hb, rb⟩ := rp2.top.lst
    refine ⟨a, b, us, ws, rfl, SqL.of ha, SqL.of hb, ?_⟩
    rw [hK]
    exact q (zpD l m) ρ2 _ _ [(.ref b, .va (Fz (.lst m))), (.ref a, .va (Fz (.lst l)))] h2 zp_it (fun v r m => by
      rcases List.mem_cons.mp m with e | m
      · cases e; exact ⟨_, rfl⟩
      · rcases List.mem_cons.mp m with e | m
        · cases e; exact ⟨_, rfl⟩
        · cases m) ⟨O2, (S2.push (ct := Fz (.lst l)) rp1).push (ct := Fz (.lst m)) rp2⟩
  · exact h2.elim
theorem e_iZp {K : List D → En → Prop} {Ee : Exn → En → Prop} : iZp TA ρ K Ee = TA ρ (fun rs ρ1 => fzK ρ1 rs fun ds ρ2 => zpK ds fun l => K l ρ2) Ee := rfl
theorem zpK_lst {l m : List D} {k : List D → Prop} : zpK [.lst l, .lst m] k = k (zpD l m) := rfl
end
end Pm

namespace Pm
open PySem PySem.Spec PyProof.Rows L2
section
variable {c : Cc} {O O' : Ow} {H H' : Hp} {ρ ρ' : En} {τ τ' : List (V × R)} {σ σ' : St} {v : V} {ℓ ℓ' : Lab} {ct : Ct} {X : Cx} {ek : EK} {fl : Bool}
variable {a b e : Expr} {rest : List Expr} {Ta Tb Te : TEp} {TA' TB' TT' : TTp} {pos pos' : Pos} {T U : TSp} {TA TB : TAp} {es : List Expr}
/-! ## own classes -/
/-- an attribute that no class has -/
def AtOk (K : PySem.W.Frag) (cls : Str → Option Addr) (nm f : Str) : Prop := ∀ C, cls nm = some C → Cls K C ∧ NoAttr K C f
def tFd (nm : Str) (i : Nat) (f : Str) : TEp := fun ρ R _ => match ρ[i]? with
  | some (.ob nm' fs) => nm' = nm ∧ match fs.lookup f with
    | some (.fz d) => R (.va (Fz d)) ρ
    | some _ => R (.alf i f) ρ
    | none => False
  | _ => False
theorem Sim0.obj {i : Nat} {nm : Str} {fs : List (Str × FC)} (S : Sim0 c H O ρ τ σ) (h : ρ[i]? = some (.ob nm fs)) : ∃ x dx C vfs, σ[i]? = some (some (.ref x)) ∧ O x = some (.s i, none) ∧ c.cls nm = some C ∧ H x = some (.ins C dx vfs) ∧ FsOk c H O (.s i) fs vfs := by
  obtain ⟨v, e1, x, dx, C, vfs, e2, o, k, hx, r⟩ := S.sl i _ h (by intro z; cases z)
  subst e2
  exact ⟨x, dx, C, vfs, e1, o, k, hx, r⟩
theorem p_fd (i : Nat) {nm f x : Str} {p : Pos} (A : AtOk X.K c.cls nm f) (hb : i < c.nb) (hN : X.N[i]? = some x := by rfl) (hv : Vis X.env.scope x := by first | exact Or.inl rfl | exact Or.inr (Or.inl rfl) | exact Or.inr (Or.inr rfl)) (hd : (x == ("__debug__" : Str)) = false := by decide)
    (hcd : (x == ("__classdict__" : Str)) = false := by decide) (hba : attributeBase (.Name x p) f X.env (eval (.Name x p) X.env) = eval (.Name x p) X.env := by rfl) : PEp c ek fl X (.Attribute (.Name x p) f pos) (tFd nm i f) := by
  refine ⟨fun pins s σ H Q I h => ?_⟩
  obtain ⟨ρ, τ, R0, E0, ⟨O, S⟩, hT, hQ, hE⟩ := h
  unfold tFd at hT
  split at hT
  · rename_i nm' fs e0
    obtain ⟨hn, hT⟩ := hT
    subst hn
    obtain ⟨x1, dx, C, vfs, e1, o, k, hx, r⟩ := S.obj e0
    obtain ⟨hC, hA⟩ := A C k
    have go : ∀ w r', vfs.lookup f = some w → R0 r' ρ → Sim c ρ ((w, r') :: τ) σ H → wpAny (model X.prog X.w) X.A (eval (.Attribute (.Name x p) f pos) X.env) (EP X pins σ Q) X.xe s := fun w r' hl h0 S' =>
      (pe_fld (pe_var hN hv hd hcd) hba).run pins s σ H Q I ⟨_, e1, x1, C, dx, vfs, w, rfl, hx, hC, hA, hl, hQ _ _ _ _ h0 S'⟩
    cases q : fs.lookup f with
    | none => rw [q] at hT; exact hT.elim
    | some fc =>
      rw [q] at hT
      obtain ⟨w, hl, hf⟩ := r.get q
      cases fc with
      | fz d => exact go w _ hl hT ⟨O, S.push hf⟩
      | ow l => exact go w _ hl hT ⟨O, S.len, S.fr, S.ow, S.zt, S.io, S.sl, ⟨x1, C, dx, vfs, hb, e1, o, .inl hx, hl⟩, S.tm⟩
      | dk l => exact go w _ hl hT ⟨O, S.len, S.fr, S.ow, S.zt, S.io, S.sl, ⟨x1, C, dx, vfs, hb, e1, o, .inl hx, hl⟩, S.tm⟩
      | tow p l => exact go w _ hl hT ⟨O, S.len, S.fr, S.ow, S.zt, S.io, S.sl, ⟨x1, C, dx, vfs, hb, e1, o, .inl hx, hl⟩, S.tm⟩
      | tdk p l => exact go w _ hl hT ⟨O, S.len, S.fr, S.ow, S.zt, S.io, S.sl, ⟨x1, C, dx, vfs, hb, e1, o, .inl hx, hl⟩, S.tm⟩
      | pin p => exact go w _ hl hT ⟨O, S.len, S.fr, S.ow, S.zt, S.io, S.sl, ⟨x1, C, dx, vfs, hb, e1, o, .inl hx, hl⟩, S.tm⟩
  · exact hT.elim

/-! ### a field is stored -/
theorem keys_put2 {α β : Type} {f : Str} {w : α} {u : β} : ∀ {fs : List (Str × α)} {vs : List (Str × β)}, vs.map (·.1) = fs.map (·.1) → (putA f u vs).map (·.1) = (putA f w fs).map (·.1)
  | [], [], _ => rfl
  | [], _ :: _, h => by cases h
  | _ :: _, [], h => by cases h
  | (g, a) :: fs, (g', b) :: vs, h => by
    simp only [List.map_cons, List.cons.injEq] at h
    obtain ⟨h1, h2⟩ := h
    subst h1
    unfold putA
    by_cases hk : f = g'
    · rw [if_pos hk, if_pos hk]; simp [h2]
    · rw [if_neg hk, if_neg hk]
      simp only [List.map_cons]
      rw [keys_put2 h2]
theorem putF_A {f : Str} {v : V} : ∀ {fs : List (Str × V)}, putF f v fs = putA f v fs
  | [] => rfl
  | (g, x) :: r => by
    unfold putF putA
    by_cases h : g = f
    · rw [if_pos h, if_pos h.symm]
    · rw [if_neg h, if_neg (fun z => h z.symm), putF_A]
theorem FsOk.put2 {f : Str} {fc : FC} {w : V} {fs : List (Str × FC)} {vs : List (Str × V)} {P : Lab × Option Str → Addr → Prop} (e : Ext c P O O' H H') (hp : ∀ g a, g ≠ f → ¬ P (ℓ, some g) a) (h : FsOk c H O ℓ fs vs)
    (q : FOk c H' O' w (ℓ, some f) fc) : FsOk c H' O' ℓ (putA f fc fs) (putA f w vs) := by
  refine ⟨keys_put2 h.1, fun g kc z => ?_⟩
  rw [lookup_putA] at z ⊢
  by_cases hg : g = f
  · subst hg
    rw [if_pos rfl] at z ⊢; cases z
    exact ⟨w, rfl, q⟩
  · rw [if_neg hg] at z ⊢
    obtain ⟨u, e1, e2⟩ := h.2 g kc z
    exact ⟨u, e1, e2.mono e (fun a z => hp g a hg z)⟩
/-- the root of a content gets another label -/
theorem FOk.root {m : Lab × Option Str} {m' : Lab × Option Str} {f : FC} (h : FOk c H O v m f) : ∃ O', (∀ P : Lab × Option Str → Addr → Prop, P = (fun l a => l = m ∧ O' a = some m') → Ext c P O O' H H) ∧ FOk c H O' v m' f ∧ (∀ a l, O' a = some l → l = m' ∨ O a = some l) ∧ ∀ a, O' a ≠ none ↔ O a ≠ none := by
  have one : ∀ p, O p = some m → (∀ P : Lab × Option Str → Addr → Prop, P = (fun l a => l = m ∧ (O.set p (some m')) a = some m') → Ext c P O (O.set p (some m')) H H) ∧ (∀ a l, (O.set p (some m')) a = some l → l = m' ∨ O a = some l) ∧ ∀ a, (O.set p (some m')) a ≠ none ↔ O a ≠ none := fun p hp => by
    refine ⟨fun P hP => ?_, fun a l q => ?_, fun a => ?_⟩
    · subst hP
      have ex := Ext.lab (c := c) (H := H) (p := p) (ℓ := m.1) (m := m.2) (ℓ' := m'.1) (m' := m'.2) hp
      exact ⟨ex.hF, ex.hT, ex.hL, fun a l o h n h2 => ex.hO a l o h (fun z => n ⟨z.1, by rw [z.2]; exact Ow.set_same⟩) h2⟩
    · by_cases ha : a = p
      · subst ha; rw [Ow.set_same] at q; cases q; exact .inl rfl
      · rw [Ow.set_ne ha] at q; exact .inr q
    · by_cases ha : a = p
      · subst ha; rw [Ow.set_same, hp]; simp
      · rw [Ow.set_ne ha]
  cases f with
  | fz d => exact ⟨O, fun P hP => ⟨fun _ _ _ h => h, fun _ _ h => h, fun _ _ h n => ⟨h, n⟩, fun _ _ _ h _ h2 => ⟨h, h2⟩⟩, h, fun a l q => .inr q, fun a => Iff.rfl⟩
  | ow l =>
    obtain ⟨p, vs, rfl, o, hp, r⟩ := h
    obtain ⟨h1, h2, h3⟩ := one p o
    exact ⟨_, h1, ⟨p, vs, rfl, Ow.set_same, hp, (h1 _ rfl).rps r⟩, h2, h3⟩
  | dk l =>
    obtain ⟨p, vs, rfl, o, hp, k, r⟩ := h
    obtain ⟨h1, h2, h3⟩ := one p o
    exact ⟨_, h1, ⟨p, vs, rfl, Ow.set_same, hp, k, (h1 _ rfl).rps r⟩, h2, h3⟩
  | tow q l =>
    obtain ⟨p, vs, rfl, ⟨o, hq⟩, hp, r⟩ := h
    obtain ⟨h1, h2, h3⟩ := one p o
    exact ⟨_, h1, ⟨p, vs, rfl, ⟨Ow.set_same, hq⟩, hp, (h1 _ rfl).rps r⟩, h2, h3⟩
  | tdk q l =>
    obtain ⟨p, vs, rfl, ⟨o, hq⟩, hp, k, r⟩ := h
    obtain ⟨h1, h2, h3⟩ := one p o
    exact ⟨_, h1, ⟨p, vs, rfl, ⟨Ow.set_same, hq⟩, hp, k, (h1 _ rfl).rps r⟩, h2, h3⟩
  | pin q => exact ⟨O, fun P hP => ⟨fun _ _ _ h => h, fun _ _ h => h, fun _ _ h n => ⟨h, n⟩, fun _ _ _ h _ h2 => ⟨h, h2⟩⟩, h, fun a l q => .inr q, fun a => Iff.rfl⟩
/-- the top temporary goes to a field of an object that stands in a slot -/
theorem Sim0.putFd {i : Nat} {nm f : Str} {fs : List (Str × FC)} {fc : FC} {x C dx : Addr} {vfs : List (Str × V)} (S : Sim0 c H O ρ ((v, .va (.at fc)) :: τ) σ) (n : NoAl τ) (h : ρ[i]? = some (.ob nm fs)) (e1 : σ[i]? = some (some (.ref x))) (o : O x = some (.s i, none)) (k : c.cls nm = some C) (hx : H x = some (.ins C dx vfs)) (r : FsOk c H O (.s i) fs vfs) :
    Sim c (ρ.set i (.ob nm (putA f fc fs))) τ σ (upd H x (.ins C dx (putF f v vfs))) := by
  have hc : FOk c H O v (.t τ.length, none) fc := S.tm.1
  have S1 := S.pop
  obtain ⟨O2, ex, hf, hlab, hnn⟩ := hc.root (m' := (.s i, some f))
  have ex := ex _ rfl
  have o2 : O2 x = some (.s i, none) := (ex.hO x _ _ o (fun z => by cases z.1) hx).1
  have r2 : FsOk c H O2 (.s i) fs vfs := r.mono ex (fun g a z => by cases z.1)
  have S2 : Sim0 c H O2 ρ τ σ := by
    refine ⟨S1.len, S1.fr, fun a l q => ?_, S1.zt, S1.io, fun j ct q hn => ?_, S1.tm.mono ex (fun k m a hk z => by cases z.1; omega) (fun w j g m _ _ _ _ _ z => by cases z.1)⟩
    · have : O a ≠ none := (hnn a).mp (by rw [q]; simp)
      cases q' : O a with
      | none => exact absurd q' this
      | some l' => exact S1.ow a l' q'
    · obtain ⟨w, e3, e4⟩ := S1.sl j ct q hn
      exact ⟨w, e3, e4.mono ex (fun m a z => by cases z.1)⟩
  have ex3 := Ext.wr (c := c) (O := O2) (o := .ins C dx (putF f v vfs)) hx True.intro o2
  obtain ⟨w1, w2, w3⟩ := S2.wr (o := .ins C dx (putF f v vfs)) hx o2 True.intro
  have r3 : FsOk c (upd H x (.ins C dx (putF f v vfs))) O2 (.s i) (putA f fc fs) (putF f v vfs) := by
    rw [putF_A]
    exact r2.put2 (by rw [← putF_A]; exact ex3) (fun g a hg z => by cases z.1) ((by rw [← putF_A]; exact hf.mono ex3 (fun a z => by cases z.1)))
  refine ⟨O2, by rw [List.length_set]; exact S2.len, w1, w2, w3, S2.io, S2.slots_set ex3 fun _ => ⟨_, e1, x, dx, C, _, rfl, o2, k, upd_same, r3⟩, S2.tm.mono ex3 (fun k m b _ z => by cases z.1) (fun w j g m _ _ _ _ _ z => ?_)⟩
  obtain ⟨ct, e⟩ := n w _ m
  cases e
/-- o.f = e -/
def sFd (nm : Str) (i : Nat) (f : Str) (Te : TEp) : TSp := fun ρ E => Te ρ (fun r ρ' => stC ρ' r fun ct ρ'' => match ct, ρ''[i]? with
  | .at fc, some (.ob nm' fs) => nm' = nm ∧ fs.length < 1000 ∧ E.nx (ρ''.set i (.ob nm (putA f fc fs)))
  | _, _ => False) E.ex
theorem s_fd (i : Nat) {nm f x : Str} {p : Pos} (A : AtOk X.K c.cls nm f) (he : PEp c ek true X e Te) (hN : X.N[i]? = some x := by rfl) (hv : Vis X.env.scope x := by first | exact Or.inl rfl | exact Or.inr (Or.inl rfl) | exact Or.inr (Or.inr rfl)) (hd : (x == ("__debug__" : Str)) = false := by decide)
    (hcd : (x == ("__classdict__" : Str)) = false := by decide) (hs : swapsWith e (some (.Attribute (.Name x p) f pos')) pos.line X.env = pure false := by rfl) : PSp c ek X (.Assign [.Attribute (.Name x p) f pos'] e pos) (sFd nm i f Te) := by
  refine ⟨fun pins s σ H D I h => ?_⟩
  obtain ⟨ρ, τ, E, S, n, hT, q1, q2, q3, q4, q5⟩ := h
  refine (ps_fld (pe_var hN hv hd hcd) he hs).run pins s σ H D I ⟨ρ, τ, _, _, S, hT, fun r ρ' y H1 h1 S1 => ?_, q5 σ, fun _ => n.alf⟩
  obtain ⟨ct, ρ2, h2, O, S2⟩ := stC_ok S1 h1
  split at h2
  · rename_i fc nm' fs e0
    obtain ⟨hn, hl, h2⟩ := h2
    subst hn
    obtain ⟨x1, dx, C, vfs, e1, o, k, hx, r⟩ := S2.obj e0
    obtain ⟨hC, hA⟩ := A C k
    exact ⟨_, e1, x1, C, dx, vfs, rfl, hx, hC, hA, by rw [r.length]; exact hl, q1 _ _ _ h2 (S2.putFd n e0 e1 o k hx r)⟩
  · exact h2.elim

/-! ### o.m(..) -/
structure MethOk (P : Program) (w : World) (K : PySem.W.Frag) (cls : Str → Option Addr) (mg : Str → Option Value) (base : Heap) (nm m : Str) (n : Nat) (dcs : List D) (k : Nat) (φ : Fn) : Prop where
  ex : ∀ C, cls nm = some C → ∃ f fd ps ds dvs, Cls K C ∧ Meth K C m f ∧ Binds K fd ps ds ∧ Vals dvs ds ∧ (∀ H A, Rps K H A dcs dvs) ∧ FnOk P w K mg base CX0 k f fd ps (spOf K cls n φ)
def tMe (nm : Str) (i : Nat) (m : Str) (φ : Fn) (ms : List Bool) (dcs : List D) (TA : TAp) : TEp := fun ρ R E => match ρ[i]? with
  | some (.ob nm' fs) => nm' = nm ∧ fs.lookup m = none ∧ TA ρ (fun rs ρ1 => callK φ (true :: ms) dcs (.al i :: rs) ρ1 R E) E
  | _ => False
section
variable {nm m x : Str} {n k k' : Nat} {dcs : List D} {φ : Fn} {p apos : Pos}
theorem p_me (i : Nat) (ms : List Bool) (F : MethOk X.prog X.w X.K c.cls X.mg X.base nm m n dcs k φ) (hb : i < c.nb) (hr : Room k' X.A) (hk : k ≤ k') (ha : PAp c ek0 true X (e :: es) TA) (hn : ms.length + 1 + dcs.length = n := by rfl)
    (hN : X.N[i]? = some x := by rfl) (hv : Vis X.env.scope x := by first | exact Or.inl rfl | exact Or.inr (Or.inl rfl) | exact Or.inr (Or.inr rfl)) (hd : (x == ("__debug__" : Str)) = false := by decide) (hcd : (x == ("__classdict__" : Str)) = false := by decide) (hK : X.K = c.K := by rfl)
    (hst : starEach (e :: es) X.env = (false, eval e X.env) :: starEach es X.env := by rfl) (hpl : (backTo pos (starEach es X.env)).any (·.1) = false := by rfl) {pl : Sem Bool}
    (ht : eval (.Call (.Attribute (.Name x p) m apos) (e :: es) [] pos) X.env = (do
      let ov ← eval (.Name x p) X.env
      standAt apos.atName
      let (f, first) ← holding [ov] (getMethod ov m pl)
      callWith pos f first (backTo pos (starEach (e :: es) X.env)) (backToKw pos (keywordEach [] X.env))) := by rfl) :
    PEp c ek0 true X (.Call (.Attribute (.Name x p) m apos) (e :: es) [] pos) (tMe nm i m φ ms dcs TA) := by
  refine ⟨fun pins s σ H Q I h => ?_⟩
  obtain ⟨ρ, τ, R0, E0, ⟨O, S⟩, hT, hQ, hE⟩ := h
  unfold tMe at hT
  split at hT
  · rename_i nm' fs e0
    obtain ⟨hnm, hl, hT⟩ := hT
    subst hnm
    obtain ⟨x1, dx, C, vfs, e1, o, kc, hx, r⟩ := S.obj e0
    obtain ⟨f, fd, ps, ds, dvs, hC, hM, hbd, hdv, hdd, F⟩ := F.ex C kc
    rw [hK] at F
    have F' : FnOk X.prog X.w X.K X.mg X.base CX0 k f fd ps (spOf c.K c.cls n φ) := by rw [hK]; exact F
    have S' : Sim c ρ ((.ref x1, .al i) :: τ) σ H := ⟨O, S.len, S.fr, S.ow, S.zt, S.io, S.sl, ⟨hb, e1⟩, S.tm⟩
    refine (pe_meth (pe_var hN hv hd hcd) hC hM F' (hr.mono hk) hbd hdv pass0 ha hst hpl ht).run pins s σ H Q I ⟨_, e1, x1, dx, vfs, rfl, hx, r.none_get hl, ρ, (.ref x1, .al i) :: τ, _, E0, S', hT, fun rs ρ1 vs H1 h1 hlen S1 => ?_, hE.1, fun z v j g m => ?_⟩
    · exact call_ok (τ := τ) (vs := .ref x1 :: vs) (rs := .al i :: rs) (.inr (hE.2 rfl)) (by rw [← hK]; exact hdd) (by simp only [List.length_cons]; omega) (by simp [hlen]) S1 h1 (fun x ρ => hE.1 x ρ) hQ
    · rcases List.mem_cons.mp m with q | m
      · cases q
      · exact hE.2 z v j g m
  · exact hT.elim
theorem p_me0 (i : Nat) (F : MethOk X.prog X.w X.K c.cls X.mg X.base nm m n dcs k φ) (hb : i < c.nb) (hr : Room k' X.A) (hk : k ≤ k') (hn : 1 + dcs.length = n := by rfl)
    (hN : X.N[i]? = some x := by rfl) (hv : Vis X.env.scope x := by first | exact Or.inl rfl | exact Or.inr (Or.inl rfl) | exact Or.inr (Or.inr rfl)) (hd : (x == ("__debug__" : Str)) = false := by decide) (hcd : (x == ("__classdict__" : Str)) = false := by decide) (hK : X.K = c.K := by rfl) {pl : Sem Bool}
    (ht : eval (.Call (.Attribute (.Name x p) m apos) [] [] pos) X.env = (do
      let ov ← eval (.Name x p) X.env
      standAt apos.atName
      let (f, first) ← holding [ov] (getMethod ov m pl)
      callWith pos f first (backTo pos (starEach [] X.env)) (backToKw pos (keywordEach [] X.env))) := by rfl) :
    PEp c ek0 true X (.Call (.Attribute (.Name x p) m apos) [] [] pos) (tMe nm i m φ [] dcs tANil) := by
  refine ⟨fun pins s σ H Q I h => ?_⟩
  obtain ⟨ρ, τ, R0, E0, ⟨O, S⟩, hT, hQ, hE⟩ := h
  unfold tMe at hT
  split at hT
  · rename_i nm' fs e0
    obtain ⟨hnm, hl, hT⟩ := hT
    subst hnm
    obtain ⟨x1, dx, C, vfs, e1, o, kc, hx, r⟩ := S.obj e0
    obtain ⟨f, fd, ps, ds, dvs, hC, hM, hbd, hdv, hdd, F⟩ := F.ex C kc
    rw [hK] at F
    have F' : FnOk X.prog X.w X.K X.mg X.base CX0 k f fd ps (spOf c.K c.cls n φ) := by rw [hK]; exact F
    have S' : Sim c ρ ((.ref x1, .al i) :: τ) σ H := ⟨O, S.len, S.fr, S.ow, S.zt, S.io, S.sl, ⟨hb, e1⟩, S.tm⟩
    refine (pe_meth0 (pe_var hN hv hd hcd) hC hM F' (hr.mono hk) hbd hdv pass0 ht).run pins s σ H Q I ⟨_, e1, x1, dx, vfs, rfl, hx, r.none_get hl, ?_⟩
    exact call_ok (E := L2.E0) (τ := τ) (vs := [.ref x1]) (rs := [.al i]) (ms := [true]) (dcs := dcs) (.inr (hE.2 rfl)) (by rw [← hK]; exact hdd) hn rfl S' (show callK φ [true] dcs [.al i] ρ R0 E0 from hT) (fun x ρ => hE.1 x ρ) hQ
  · exact hT.elim
end
end
end Pm

namespace Pm
open PySem PySem.Spec PyProof.Rows L2
section
variable {c : Cc} {O O' : Ow} {H H' : Hp} {ρ ρ' : En} {τ τ' : List (V × R)} {σ σ' : St} {v : V} {ℓ ℓ' : Lab} {ct : Ct} {X : Cx} {ek : EK} {fl : Bool}
variable {a b e : Expr} {rest : List Expr} {Ta Tb Tc Td Te : TEp} {TA' TB' TT' : TTp} {pos pos' : Pos} {T U : TSp} {TA TB : TAp} {es : List Expr}
/-! ### C(..) -/
structure MakeOk (P : Program) (w : World) (K : PySem.W.Frag) (cls : Str → Option Addr) (mg : Str → Option Value) (base : Heap) (nm : Str) (n : Nat) (dcs : List D) (k : Nat) (φ : Fn) : Prop where
  ex : ∃ C f fd ps ds dvs, cls nm = some C ∧ mg nm = some (.ref C) ∧ Mk K C f ∧ Binds K fd ps ds ∧ Vals dvs ds ∧ (∀ H A, Rps K H A dcs dvs) ∧ FnOk P w K mg base CX0 k f fd ps (spOf K cls n φ)
def makeK (nm : Str) (m : Nat) (φ : Fn) (dcs : List D) (rs : List R) (ρ : En) (R0 : R → En → Prop) : Prop := rs.length = m ∧ fzK ρ rs fun ds ρ2 => φ (.ob nm [] :: (ds.map Fz ++ dcs.map Fz)) (fun r cs' => r = Fz .non ∧ R0 (.va (cs'.headD .no)) ρ2) (fun _ _ => False)
def tMk (nm : Str) (m : Nat) (φ : Fn) (dcs : List D) (TA : TAp) : TEp := fun ρ R E => TA ρ (fun rs ρ1 => makeK nm m φ dcs rs ρ1 R) E
theorem TOk.ext {c' : Cc} {l : St} (h1 : c'.K = c.K) (h2 : c'.cls = c.cls) (h3 : ∀ a, c'.Z a ↔ c.Z a) (hn : c.nb ≤ c'.nb) : ∀ {τ : List (V × R)}, TOk c H O σ τ → TOk c' H O (σ ++ l) τ
  | [], _ => trivial
  | (v, .al i) :: τ, h => by
    refine ⟨⟨Nat.lt_of_lt_of_le h.1.1 hn, ?_⟩, TOk.ext h1 h2 h3 hn h.2⟩
    have := (List.getElem?_eq_some_iff.mp h.1.2).1
    rw [List.getElem?_append_left this]; exact h.1.2
  | (v, .alf i f) :: τ, h => by
    obtain ⟨⟨x, C, dx, vfs, hb, e1, o, e2, e3⟩, h'⟩ := h
    refine ⟨⟨x, C, dx, vfs, Nat.lt_of_lt_of_le hb hn, ?_, o, e2, e3⟩, TOk.ext h1 h2 h3 hn h'⟩
    have := (List.getElem?_eq_some_iff.mp e1).1
    rw [List.getElem?_append_left this]; exact e1
  | (v, .va ct) :: τ, h => ⟨COk.ctx h1.symm h2.symm (fun a => (h3 a).symm) h.1, TOk.ext h1 h2 h3 hn h.2⟩
theorem aok_frz {xs : List D} {vs : List V} (r : Rps c.K H (c.av O) xs vs) : AOk c H O σ (xs.map .inl) vs := by
  induction xs generalizing vs with
  | nil => unfold Rps at r; exact r
  | cons d ds ih =>
    unfold Rps at r
    obtain ⟨v, w, e, h1, h2⟩ := r
    exact ⟨v, w, e, h1, ih h2⟩
theorem brs_frz : ∀ {xs : List D}, brs (xs.map .inl) = []
  | [] => rfl
  | d :: ds => by rw [List.map_cons]; exact brs_frz (xs := ds)
theorem cts_frz : ∀ {xs : List D}, cts ρ (xs.map .inl) = xs.map Fz
  | [] => rfl
  | d :: ds => by rw [List.map_cons, List.map_cons, ← cts_frz (xs := ds)]; rfl
theorem wb_frz : ∀ {xs : List D} {cs : List Ct}, wb (xs.map .inl) cs ρ = ρ
  | [], cs => by simp [wb]
  | d :: ds, [] => by rw [List.map_cons]; unfold wb; exact wb_frz
  | d :: ds, _ :: cs => by rw [List.map_cons]; unfold wb; exact wb_frz
theorem set_last {α : Type} (l : List α) (x y : α) : (l ++ [x]).set l.length y = l ++ [y] := by simp
theorem make_ok {nm : Str} {m : Nat} {φ : Fn} {dcs : List D} {dvs : List V} {rs : List R} {vs : List V} {n : Nat} {R0 : R → En → Prop} {Q : VK} {E : XK} {C x dx : Addr} (hC : c.cls nm = some C) (hd : ∀ H A, Rps c.K H A dcs dvs) (hn : m + 1 + dcs.length = n) (hl : vs.length = rs.length)
    (S : Sim c ρ (tmps τ vs rs) σ H) (h : makeK nm m φ dcs rs ρ R0) (hQ : ∀ r ρ' v H', R0 r ρ' → Sim c ρ' ((v, r) :: τ) σ H' → Q v H') (hx : H x = none) (hdx : H dx = none) (ne : dx ≠ x) :
    spOf c.K c.cls n φ (.ref x :: (vs ++ dvs)) (upd (upd H dx (.own x)) x (.ins C dx [])) (fun v H2 => v = .non ∧ Q (.ref x) H2) E := by
  unfold makeK at h
  obtain ⟨hm, h⟩ := h
  obtain ⟨ds, ρ2, e1, h⟩ := h.of
  obtain ⟨O, S⟩ := S
  obtain ⟨O1, S1, r1, _⟩ := fzL_ok hl S e1
  have hld : ds.length = rs.length := by rw [← hl, r1.length]
  have ex1 := Ext.new (o := .own x) (m := none) S1 hdx
  have S2 := S1.new (o := .own x) (m := none) hdx (fun z => absurd rfl z)
  have hx2 : (upd H dx (.own x)) x = none := by rw [upd_ne (Ne.symm ne)]; exact hx
  have ex2 := Ext.new (o := .ins C dx []) (m := some (Lab.s ρ2.length, none)) S2 hx2
  have S3 := S2.new (o := .ins C dx []) (m := some (Lab.s ρ2.length, none)) hx2 (fun _ => True.intro)
  have r3 := ex2.rps (ex1.rps r1)
  generalize hH3 : upd (upd H dx (.own x)) x (.ins C dx []) = H3 at S3 r3 ⊢
  generalize hO3 : Ow.set (Ow.set O1 dx none) x (some (Lab.s ρ2.length, none)) = O3 at S3 r3
  have hX : O3 x = some (Lab.s ρ2.length, none) := by rw [← hO3]; exact Ow.set_same
  have hHx : H3 x = some (.ins C dx []) := by rw [← hH3]; exact upd_same
  have hlen := S3.len
  let c' : Cc := { c with nb := ρ2.length + c.nb + 1 }
  have S4 : Sim0 c' H3 O3 (ρ2 ++ [.ob nm []]) τ (σ ++ [some (.ref x)]) := by
    refine ⟨by simp [hlen], S3.fr, S3.ow, S3.zt, fun p hp => ⟨(S3.io p hp).1, ?_⟩, fun i ct q hn' => ?_, TOk.ext (c := c) (c' := c') rfl rfl (fun _ => Iff.rfl) (by show c.nb ≤ ρ2.length + c.nb + 1; omega) S3.tm⟩
    · have e := (S3.io p hp).2
      rw [List.getElem?_append_left (List.getElem?_eq_some_iff.mp e).1]; exact e
    · by_cases hi : i < ρ2.length
      · rw [List.getElem?_append_left hi] at q
        obtain ⟨w, e2, e3⟩ := S3.sl i ct q hn'
        exact ⟨w, by rw [List.getElem?_append_left (by rw [hlen]; exact hi)]; exact e2, COk.ctx rfl rfl (fun _ => Iff.rfl) e3⟩
      · have e : i = ρ2.length := by
          have := (List.getElem?_eq_some_iff.mp q).1
          simp at this; omega
        subst e
        rw [List.getElem?_append_right (Nat.le_refl _)] at q
        simp at q; subst q
        refine ⟨.ref x, by rw [List.getElem?_append_right (by omega), hlen]; simp, x, dx, C, [], rfl, hX, hC, hHx, rfl, fun f fc z => by cases z⟩
  have A4 : AOk c' H3 O3 (σ ++ [some (.ref x)]) (.inr ρ2.length :: ds.map .inl) (.ref x :: vs) :=
    ⟨.ref x, vs, rfl, by rw [List.getElem?_append_right (by omega), hlen]; simp, aok_frz r3⟩
  have hbr : brs (.inr ρ2.length :: ds.map .inl) = [ρ2.length] := by
    show ρ2.length :: brs (ds.map .inl) = _
    rw [brs_frz]
  have hget : (ρ2 ++ [Ct.ob nm []]).getD ρ2.length .no = .ob nm [] := by simp
  have hcts : cts (ρ2 ++ [.ob nm []]) (.inr ρ2.length :: ds.map .inl) = .ob nm [] :: ds.map Fz := by
    show (ρ2 ++ [Ct.ob nm []]).getD ρ2.length .no :: cts _ (ds.map .inl) = _
    rw [hget, cts_frz]
  have hal : ∀ (v : V) (i : Nat) (f : Str), (v, R.alf i f) ∈ τ → i < ρ2.length := fun v i f m => by
    have : ∀ {τ : List (V × R)}, TOk c H3 O3 σ τ → (v, R.alf i f) ∈ τ → i < σ.length := fun {τ} h m => by
      induction τ with
      | nil => cases m
      | cons p τ ih =>
        rcases List.mem_cons.mp m with e | m
        · subst e
          obtain ⟨⟨_, _, _, _, _, e1, _⟩, _⟩ := h
          exact (List.getElem?_eq_some_iff.mp e1).1
        · exact ih h.ndrop m
    have := this S3.tm m
    omega
  refine call_core (c := c') (xs := .inr ρ2.length :: ds.map .inl) (vs := .ref x :: vs) (ρ1 := ρ2 ++ [.ob nm []]) (O1 := O3) (τ := τ) (σ := σ ++ [some (.ref x)]) (E0 := fun _ _ => False) (R0 := fun r ρ' => r = .va (Fz .non) ∧ ∃ ct, ρ' = ρ2 ++ [ct] ∧ R0 (.va ct) ρ2) (fun v i f m z => ?_) hd (by simp; omega) S4 A4 (by rw [hbr]; simp) (fun i hi => ?_) ?_ (fun _ _ z => z) (fun r ρ' v H' h1 S5 => ?_)
  · rw [hbr] at z
    have := hal v i f m
    simp at z; omega
  · rw [hbr] at hi
    simp at hi
    subst hi
    rw [hget]; rfl
  · rw [hcts]
    refine Eq.mp ?_ h
    congr 1
    · funext r cs'
      apply propext
      constructor
      · rintro ⟨rfl, h2⟩
        refine ⟨rfl, cs'.headD .no, ?_, h2⟩
        cases cs' with
        | nil =>
          show wb (.inr ρ2.length :: ds.map .inl) [] _ = _
          unfold wb
          rw [wb_frz, set_last]; rfl
        | cons c0 cs =>
          show wb (.inr ρ2.length :: ds.map .inl) (c0 :: cs) _ = _
          unfold wb
          rw [wb_frz, set_last]; rfl
      · rintro ⟨h2, ct, h3, h4⟩
        cases h2
        refine ⟨rfl, ?_⟩
        have : ct = cs'.headD .no := by
          cases cs' with
          | nil =>
            have h3 : wb (.inr ρ2.length :: ds.map .inl) [] (ρ2 ++ [Ct.ob nm []]) = ρ2 ++ [ct] := h3
            unfold wb at h3
            rw [wb_frz, set_last] at h3
            have := List.append_cancel_left h3
            cases this; rfl
          | cons c0 cs =>
            have h3 : wb (.inr ρ2.length :: ds.map .inl) (c0 :: cs) (ρ2 ++ [Ct.ob nm []]) = ρ2 ++ [ct] := h3
            unfold wb at h3
            rw [wb_frz, set_last] at h3
            have := List.append_cancel_left h3
            cases this; rfl
        rw [this] at h4; exact h4
  · obtain ⟨rfl, ct, rfl, h2⟩ := h1
    obtain ⟨O5, S5⟩ := S5
    have hnon : v = .non := by
      have : Rp c.K H' (c.av O5) .non v := S5.tm.1
      exact this.top.non
    refine ⟨hnon, hQ _ _ _ _ h2 ?_⟩
    have S6 := S5.pop
    have ex : Ext c (fun l _ => l.1 = .s ρ2.length) O5 (O5.re (.s ρ2.length) (.t τ.length)) H' H' := Ext.re
    have hl6 : σ.length = ρ2.length := hlen
    have hct : COk c H' (O5.re (.s ρ2.length) (.t τ.length)) (.ref x) (.t τ.length) ct := by
      by_cases hno : ct = .no
      · subst hno; trivial
      · obtain ⟨w, e2, e3⟩ := S6.sl ρ2.length ct (by rw [List.getElem?_append_right (Nat.le_refl _)]; simp) hno
        rw [List.getElem?_append_right (by omega), hl6] at e2
        simp at e2; subst e2
        exact COk.ctx rfl rfl (fun _ => Iff.rfl) (COk.re e3)
    have tm6 : TOk c H' O5 σ τ := by
      have : ∀ {τ : List (V × R)}, TOk c H3 O3 σ τ → TOk c' H' O5 (σ ++ [some (.ref x)]) τ → TOk c H' O5 σ τ := fun {τ} h0 h => by
        induction τ with
        | nil => trivial
        | cons p τ ih =>
          obtain ⟨w, r⟩ := p
          cases r with
          | al i => exact ⟨h0.1, ih h0.2 h.2⟩
          | alf i f =>
            obtain ⟨⟨x1, C1, dx1, vf1, hb1, e1', o1, e2', e3'⟩, h'⟩ := h
            obtain ⟨⟨x2, C2, dx2, vf2, hb2, e4', _⟩, h0'⟩ := h0
            refine ⟨⟨x1, C1, dx1, vf1, hb2, ?_, o1, e2', e3'⟩, ih h0' h'⟩
            rw [List.getElem?_append_left (List.getElem?_eq_some_iff.mp e4').1] at e1'
            exact e1'
          | va ct => exact ⟨COk.ctx rfl rfl (fun _ => Iff.rfl) h.1, ih h0.2 h.2⟩
      exact this S3.tm S6.tm
    refine ⟨O5.re (.s ρ2.length) (.t τ.length), hlen, S6.fr, S6.ow_re, S6.zt, fun p hp => ⟨(S3.io p hp).1, (S3.io p hp).2⟩, fun i ct' q hn' => ?_, hct, tm6.mono ex (fun k m a hk z => by cases z) (fun w j g m _ _ _ _ _ z => ?_)⟩
    · have hi : i < ρ2.length := (List.getElem?_eq_some_iff.mp q).1
      obtain ⟨w, e2, e3⟩ := S6.sl i ct' (by rw [List.getElem?_append_left hi]; exact q) hn'
      rw [List.getElem?_append_left (by omega)] at e2
      exact ⟨w, e2, (COk.ctx (c := c') (c' := c) rfl rfl (fun _ => Iff.rfl) e3).mono ex (fun m a z => by cases z; omega)⟩
    · cases z
      have := hal w _ g m
      omega
section
variable {nm x : Str} {n k k' : Nat} {dcs : List D} {φ : Fn} {p : Pos}
theorem p_mk (m : Nat) (F : MakeOk X.prog X.w X.K c.cls X.mg X.base nm n dcs k φ) (hr : Room k' X.A) (hk : k + 1 ≤ k') (ha : PAp c ek fl X (e :: es) TA) (hn : m + 1 + dcs.length = n := by rfl) (hg : Gl X nm := by rfl) (hK : X.K = c.K := by rfl)
    (hdb : (nm == ("__debug__" : Str)) = false := by decide) (he : starEach (e :: es) X.env = (false, eval e X.env) :: starEach es X.env := by rfl) (hpl : (backTo pos (starEach es X.env)).any (·.1) = false := by rfl) :
    PEp c ek fl X (.Call (.Name nm p) (e :: es) [] pos) (tMk nm m φ dcs TA) := by
  obtain ⟨C, f, fd, ps, ds, dvs, hC, hm, M, hb, hd, hdd, F⟩ := F.ex
  rw [hK] at F
  refine ⟨fun pins s σ H Q I h => ?_⟩
  obtain ⟨ρ, τ, R0, E0, S, hT, hQ, hE⟩ := h
  have F' : FnOk X.prog X.w X.K X.mg X.base CX0 k f fd ps (spOf c.K c.cls n φ) := by rw [hK]; exact F
  refine (pe_make M F' (hr.mono hk) hg hm hb hd pass0 ha hdb he hpl).run pins s σ H Q I ⟨ρ, τ, _, E0, S, hT, fun rs ρ1 vs H1 h1 hl S1 => ?_, hE⟩
  intro x dx hx hdx ne
  exact make_ok hC (by rw [← hK]; exact hdd) hn hl S1 h1 hQ hx hdx ne
theorem p_mk0 (F : MakeOk X.prog X.w X.K c.cls X.mg X.base nm n dcs k φ) (hr : Room k' X.A) (hk : k + 1 ≤ k') (hn : 1 + dcs.length = n := by rfl) (hg : Gl X nm := by rfl) (hK : X.K = c.K := by rfl)
    (hdb : (nm == ("__debug__" : Str)) = false := by decide) : PEp c ek fl X (.Call (.Name nm p) [] [] pos) (tMk nm 0 φ dcs tANil) := by
  obtain ⟨C, f, fd, ps, ds, dvs, hC, hm, M, hb, hd, hdd, F⟩ := F.ex
  rw [hK] at F
  refine ⟨fun pins s σ H Q I h => ?_⟩
  obtain ⟨ρ, τ, R0, E0, S, hT, hQ, hE⟩ := h
  have F' : FnOk X.prog X.w X.K X.mg X.base CX0 k f fd ps (spOf c.K c.cls n φ) := by rw [hK]; exact F
  refine (pe_make0 M F' (hr.mono hk) hg hm hb hd pass0 hdb).run pins s σ H Q I ?_
  intro x dx hx hdx ne
  exact make_ok (rs := []) (vs := []) hC (by rw [← hK]; exact hdd) (by simpa using hn) rfl S (show makeK nm 0 φ dcs [] ρ R0 from hT) hQ hx hdx ne
end
end
end Pm

namespace Pm
open PySem PySem.Spec PyProof.Rows L2
section
variable {c : Cc} {O O' : Ow} {H H' : Hp} {ρ ρ' : En} {τ τ' : List (V × R)} {σ σ' : St} {v : V} {ℓ ℓ' : Lab} {ct : Ct} {X : Cx} {ek : EK} {fl : Bool}
variable {a b e : Expr} {rest : List Expr} {Ta Tb Tc Td Te : TEp} {TA' TB' TT' : TTp} {pos pos' : Pos} {T U : TSp} {TA TB : TAp} {es : List Expr}
/-! ### a place (a slot or a field) changed -/
/-- new content under the old one's tag -/
def fcR : Option FC → FC → FC
  | some (.tow a _), .ow l => .tow a l
  | some (.tdk a _), .dk l => .tdk a l
  | _, f => f
theorem FOk.retag {H1 H2 : Hp} {O1 O2 : Ow} {m : Lab × Option Str} {f f' : FC} (h : FOk c H1 O1 v m f) (h' : FOk c H2 O2 v m f') : FOk c H2 O2 v m (fcR (some f) f') := by
  unfold fcR
  split
  · rename_i e; cases e
    obtain ⟨a, vs, rfl, ⟨_, e⟩, _⟩ := h
    obtain ⟨a', vs', e', o, r⟩ := h'
    cases e'
    exact ⟨_, vs', rfl, ⟨o, e⟩, r⟩
  · rename_i e; cases e
    obtain ⟨a, vs, rfl, ⟨_, e⟩, _⟩ := h
    obtain ⟨a', vs', e', o, r⟩ := h'
    cases e'
    exact ⟨_, vs', rfl, ⟨o, e⟩, r⟩
  · exact h'
def setR (ρ : En) (r : R) (fc : FC) : En := match r with
  | .al i => ρ.set i (.at fc)
  | .alf i f => match ρ[i]? with
    | some (.ob nm fs) => ρ.set i (.ob nm (putA f (fcR (fs.lookup f) fc) fs))
    | some (.ds fs) => ρ.set i (.ds (putA f (fcR (fs.lookup f) fc) fs))
    | _ => ρ
  | .va _ => ρ
def isPl : R → Bool
  | .va _ => false
  | _ => true
theorem Sim0.setPl {r : R} {p : Addr} {u o : HO} {fc fc' : FC} (S : Sim0 c H O ρ ((v, r) :: τ) σ) (hr : isPl r = true) (hc : Pm.ctF ρ r = some fc) (hv : v = .ref p) (ho : O p = some (rLab τ.length r)) (hp : H p = some u) (hni : (∀ C dx fs, ¬ RecH (some u) C dx fs) ∨ NoAlf τ) (hm : Mut (some o)) (hmu : Mut (some u))
    (hn : ∀ P, Ext c P O O H (upd H p o) → FOk c (upd H p o) O v (rLab τ.length r) fc') : Sim0 c (upd H p o) O (setR ρ r fc') τ σ := by
  subst hv
  cases r with
  | va ct => cases hr
  | al i =>
    have hs : σ[i]? = some (some (.ref p)) := S.tm.1.2
    have ex := Ext.wr (c := c) (O := O) (o := o) hp hmu ho
    have S1 := S.pop
    obtain ⟨w1, w2, w3⟩ := S1.wr (o := o) hp ho hm
    exact ⟨by unfold setR; rw [List.length_set]; exact S1.len, w1, w2, w3, S1.io, S1.slots_set ex fun _ => ⟨_, hs, hn _ ex⟩, S1.tm.mono ex (fun k m b _ z => by cases z.1) (fun w i f m x C dx vfs hx z => by rw [z.2, hp] at hx; exact hni.elim (fun q => q _ _ _ hx) (fun q => q w i f m))⟩
  | alf i f =>
    obtain ⟨ct, fs, f0, e0, ef, e1, hfc⟩ := ctF_alf hc
    obtain ⟨⟨x, C, dx, vfs, hb, hs, ox, hx, hl⟩, _⟩ := S.tm
    have S1 := S.pop
    have ne : x ≠ p := fun z => by subst z; rw [ox] at ho; cases ho
    have ex := Ext.wr (c := c) (O := O) (o := o) hp hmu ho
    obtain ⟨w1, w2, w3⟩ := S1.wr (o := o) hp ho hm
    obtain ⟨w, hs', hok⟩ := S1.sl i _ e0 (by intro z; subst z; cases ef)
    rw [hs] at hs'; cases hs'
    cases ct with
    | ob nm fs' =>
      cases ef
      obtain ⟨x', dx', C', vfs', hv', ox', hC', hx', r'⟩ := hok
      cases hv'
      have hu := hx.uniq (.inl hx' : RecH (H x) C' dx' vfs')
      subst hu
      obtain ⟨w, q1, q2⟩ := r'.get e1
      rw [hl] at q1; cases q1
      have e2 : setR ρ (.alf i f) fc' = ρ.set i (.ob nm (putA f (fcR (some f0) fc') fs)) := by
        show (match ρ[i]? with | some (.ob nm fs) => ρ.set i (.ob nm (putA f (fcR (fs.lookup f) fc') fs)) | some (.ds fs) => _ | _ => ρ) = _
        rw [e0]
        show ρ.set i (.ob nm (putA f (fcR (fs.lookup f) fc') fs)) = _
        rw [e1]
      rw [e2]
      exact ⟨by rw [List.length_set]; exact S1.len, w1, w2, w3, S1.io, S1.slots_set ex fun _ => ⟨_, hs, x, dx', C', vfs, rfl, ox, hC', by rw [upd_ne ne]; exact hx', r'.put ex e1 hl (q2.retag (hn _ ex))⟩, S1.tm.mono ex (fun k m b _ z => by cases z.1) (fun w i f m x C dx vfs hx z => by cases z.1)⟩
    | ds fs' =>
      cases ef
      obtain ⟨x', vfs', hv', ox', hx', r'⟩ := hok
      cases hv'
      have hu := hx.uniq (.inr hx' : RecH (H x) 0 0 vfs')
      subst hu
      obtain ⟨w, q1, q2⟩ := r'.get e1
      rw [hl] at q1; cases q1
      have e2 : setR ρ (.alf i f) fc' = ρ.set i (.ds (putA f (fcR (some f0) fc') fs)) := by
        show (match ρ[i]? with | some (.ob nm fs) => ρ.set i (.ob nm (putA f (fcR (fs.lookup f) fc') fs)) | some (.ds fs) => ρ.set i (.ds (putA f (fcR (fs.lookup f) fc') fs)) | _ => ρ) = _
        rw [e0]
        show ρ.set i (.ds (putA f (fcR (fs.lookup f) fc') fs)) = _
        rw [e1]
      rw [e2]
      exact ⟨by rw [List.length_set]; exact S1.len, w1, w2, w3, S1.io, S1.slots_set ex fun _ => ⟨_, hs, x, vfs, rfl, ox, by rw [upd_ne ne]; exact hx', r'.put ex e1 hl (q2.retag (hn _ ex))⟩, S1.tm.mono ex (fun k m b _ z => by cases z.1) (fun w i f m x C dx vfs hx z => by cases z.1)⟩
    | _ => cases ef

/-! ### methods that change an owned list of a field -/
def tMuR (f : MuF) (To : TEp) (TA : TAp) : TEp := fun ρ R E => To ρ (fun r ρ1 => isPl r = true ∧ match ctF ρ1 r with
  | some (.ow _) => TA ρ1 (fun rs ρ2 => fzK ρ2 rs fun ds ρ3 => match ctF ρ3 r with
    | some (.ow l) => f l ds fun res l' => R (.va (Fz res)) (setR ρ3 r (.ow l'))
    | _ => False) E
  | _ => False) E
section
variable {name : Str} {apos : Pos} {id : String} {r : V → List V → Hp → VK → Prop} {f : MuF} {o : Expr} {To : TEp}
theorem p_muR (pa : PlainAttrs "list") (slot : Slot "list" name id) (hty : typeOf (.builtin id) = pure (.type "method_descriptor")) (hm : MtR X id r) (ok : MuOk c f r) (ho : PEp c ek fl X o To) (ha : PAp c ek false X (e :: es) TA) (hK : X.K = c.K := by rfl)
    (hbase : attributeBase o name X.env (eval o X.env) = eval o X.env := by rfl)
    (hfew : ((backTo pos (starEach (e :: es) X.env)).all (fun x => !x.1) && (backToKw pos (keywordEach [] X.env)).all (fun x => x.1.isSome) && decide ((e :: es).length + ([] : List Keyword).length + (if ([] : List Keyword).isEmpty then 0 else 1) < 30)) = true := by rfl)
    (hline : (apos.endLine == pos.line) = true := by rfl) (hs : starEach (e :: es) X.env = (false, eval e X.env) :: starEach es X.env := by rfl) (hplain : (backTo pos (starEach es X.env)).any (·.1) = false := by rfl) :
    PEp c ek fl X (.Call (.Attribute o name apos) (e :: es) [] pos) (tMuR f To TA) := by
  refine ⟨fun pins s σ H Q I h => ?_⟩
  obtain ⟨ρ, τ, R0, E0, S, hT, hQ, hE⟩ := h
  refine (pe_bm pa slot hty hm ho ha hbase hfew hline hs hplain).run pins s σ H Q I ⟨ρ, τ, _, E0, S, hT, fun rr ρ1 v H1 h1 S1 => ?_, hE⟩
  obtain ⟨hpl, h1⟩ := h1
  split at h1
  · rename_i l0 e0
    have hty0 : tyV X.K "list" v H1 := by
      obtain ⟨O, S0⟩ := S1
      obtain ⟨p, vs, rfl, ho, hp, rr⟩ := S0.ctF e0
      exact .inl ⟨rfl, vs, SqL.of hp⟩
    refine ⟨hty0, ρ1, (v, rr) :: τ, _, E0, S1, h1, fun rs ρ2 ws H2 h2 hl S2 => ?_, hE.1, fun z => by cases z⟩
    obtain ⟨ds, ρ3, e1, h3⟩ := h2.of
    obtain ⟨O, S2⟩ := S2
    obtain ⟨O2, S3, r2, _⟩ := fzL_ok hl S2 e1
    split at h3
    · rename_i l e2
      obtain ⟨p, vs, rfl, hoo, hp, rrr⟩ := S3.ctF e2
      refine ok (c.av O2) H2 p vs ws l ds Q _ hp rrr r2 h3 fun res l' w vs' h4 h5 h6 => ?_
      have S4 := S3.setPl (o := .lst vs') (fc' := .ow l') hpl e2 rfl hoo hp (.inl (by intro _ _ _ z; rcases z with z | z <;> cases z)) True.intro True.intro (fun P ex => ⟨p, vs', rfl, hoo, upd_same, ex.rps h6⟩)
      have ex := Ext.wr (c := c) (O := O2) (o := .lst vs') hp True.intro hoo
      exact hQ _ _ _ _ h4 ⟨O2, S4.push (ct := Fz res) (ex.rp h5)⟩
    · exact h3.elim
  · exact h1.elim
end

/-! ### dicts -/
def keyD : D → Option Key
  | .int i => some (.inl i)
  | .str x => some (.inr x)
  | _ => none
theorem keyD_of {K : PySem.W.Frag} {A : Av} {d : D} {k : Key} (h : RpT K H A d v) (e : keyD d = some k) : v = kV k := by
  cases d <;> cases e
  · exact h.int
  · exact h.str
def dkGet (kvs : List (Key × D)) (k : Key) : Option D := (kvs.find? fun kv => decide (kv.1 = k)).map (·.2)
def dkPut (kvs : List (Key × D)) (k : Key) (d : D) : List (Key × D) :=
  if (kvs.any fun kv => decide (kv.1 = k)) = true then kvs.map (fun kv => if kv.1 = k then (kv.1, d) else kv) else kvs ++ [(k, d)]
theorem dk_get {K : PySem.W.Frag} {A : Av} {k : Key} : ∀ {kvs : List (Key × D)} {ws : List (Key × V)}, ws.map (·.1) = kvs.map (·.1) → Rps K H A (kvs.map (·.2)) (ws.map (·.2)) → (∀ d, dkGet kvs k = some d → ∃ v, valV ws k = some v ∧ Rp K H A d v) ∧ (valV ws k).isSome = (dkGet kvs k).isSome
  | [], [], _, _ => ⟨fun d h => (by cases h), rfl⟩
  | [], _ :: _, h, _ => by cases h
  | _ :: _, [], h, _ => by cases h
  | (k1, d1) :: kvs, (k2, v2) :: ws, h, r => by
    simp only [List.map_cons, List.cons.injEq] at h
    obtain ⟨h1, h2⟩ := h
    subst h1
    simp only [List.map_cons] at r
    unfold Rps at r
    obtain ⟨w, ww, e, r1, r2⟩ := r
    cases e
    obtain ⟨ih1, ih2⟩ := dk_get (k := k) h2 r2
    by_cases hk : k2 = k
    · refine ⟨fun d e => ?_, ?_⟩
      · unfold dkGet at e
        rw [List.find?_cons] at e
        simp [hk] at e
        subst e
        exact ⟨v2, valV_pos hk, r1⟩
      · rw [valV_pos hk]
        unfold dkGet
        rw [List.find?_cons]
        simp [hk]
    · have e1 : dkGet ((k2, d1) :: kvs) k = dkGet kvs k := by
        unfold dkGet
        rw [List.find?_cons]
        simp [hk]
      rw [valV_neg hk, e1]
      exact ⟨ih1, ih2⟩
theorem dk_any {k : Key} : ∀ {kvs : List (Key × D)} {ws : List (Key × V)}, ws.map (·.1) = kvs.map (·.1) → (ws.any fun kv => decide (kv.1 = k)) = (kvs.any fun kv => decide (kv.1 = k))
  | [], [], _ => rfl
  | [], _ :: _, h => by cases h
  | _ :: _, [], h => by cases h
  | (k1, d1) :: kvs, (k2, v2) :: ws, h => by
    simp only [List.map_cons, List.cons.injEq] at h
    obtain ⟨h1, h2⟩ := h
    subst h1
    rw [List.any_cons, List.any_cons, dk_any h2]
theorem dk_put {K : PySem.W.Frag} {A : Av} {k : Key} {d : D} {kvs : List (Key × D)} {ws : List (Key × V)} (h : ws.map (·.1) = kvs.map (·.1)) (r : Rps K H A (kvs.map (·.2)) (ws.map (·.2))) (hv : Rp K H A d v) :
    (putK ws k v).map (·.1) = (dkPut kvs k d).map (·.1) ∧ Rps K H A ((dkPut kvs k d).map (·.2)) ((putK ws k v).map (·.2)) := by
  unfold putK dkPut
  rw [dk_any h]
  split
  · have : ∀ {kvs : List (Key × D)} {ws : List (Key × V)}, ws.map (·.1) = kvs.map (·.1) → Rps K H A (kvs.map (·.2)) (ws.map (·.2)) → (ws.map (fun kv => if kv.1 = k then (kv.1, v) else kv)).map (·.1) = (kvs.map (fun kv => if kv.1 = k then (kv.1, d) else kv)).map (·.1) ∧ Rps K H A ((kvs.map (fun kv => if kv.1 = k then (kv.1, d) else kv)).map (·.2)) ((ws.map (fun kv => if kv.1 = k then (kv.1, v) else kv)).map (·.2)) := fun {kvs} => by
      induction kvs with
      | nil =>
        intro ws h r
        cases ws with
        | nil => exact ⟨rfl, r⟩
        | cons _ _ => cases h
      | cons p kvs ih =>
        intro ws h r
        cases ws with
        | nil => cases h
        | cons q ws =>
          obtain ⟨k1, d1⟩ := p
          obtain ⟨k2, v2⟩ := q
          simp only [List.map_cons, List.cons.injEq] at h
          obtain ⟨h1, h2⟩ := h
          subst h1
          simp only [List.map_cons] at r
          unfold Rps at r
          obtain ⟨w, ww, e, r1, r2⟩ := r
          cases e
          obtain ⟨i1, i2⟩ := ih h2 r2
          simp only [List.map_cons]
          by_cases hk : k2 = k
          · simp only [hk, if_true]
            exact ⟨by rw [i1], .cons hv i2⟩
          · simp only [hk, if_false]
            exact ⟨by rw [i1], .cons r1 i2⟩
    exact this h r
  · simp only [List.map_append, List.map_cons, List.map_nil]
    exact ⟨by rw [h], r.app (.one hv)⟩
/-- {} -/
def tDn : TEp := fun ρ R _ => R (.va (.at (.dk []))) ρ
theorem p_dn : PEp c ek fl X (.Dict [] [] pos) tDn := by
  refine ⟨fun pins s σ H Q I h => ?_⟩
  obtain ⟨ρ, τ, R0, E0, ⟨O, S⟩, hT, hQ, hE⟩ := h
  refine pe_dnewK.run pins s σ H Q I fun p hp => hQ _ _ _ _ hT ?_
  refine ⟨O.set p (some (.t τ.length, none)), (S.new (o := .dK []) hp fun _ => True.intro).push ?_⟩
  exact ⟨p, [], rfl, Ow.set_same, upd_same, rfl, .nil⟩
def dkK (ρ : En) (r rk : R) (k : List (Key × D) → Key → Prop) : Prop := match ctF ρ r with
  | some (.dk kvs) => wD (vw ρ rk) fun d => match keyD d with
    | some key => k kvs key
    | none => False
  | _ => False
theorem dkK.of {r rk : R} {k : List (Key × D) → Key → Prop} (h : dkK ρ r rk k) : ∃ kvs key d, ctF ρ r = some (.dk kvs) ∧ vw ρ rk = some d ∧ keyD d = some key ∧ k kvs key := by
  unfold dkK at h
  split at h
  · rename_i kvs e
    obtain ⟨d, e1, h⟩ := h.of
    split at h
    · rename_i key e2
      exact ⟨kvs, key, d, e, e1, e2, h⟩
    · exact h.elim
  · exact h.elim
/-- d[k] -/
def tDg (Td Tk : TEp) : TEp := fun ρ R E => Td ρ (fun r ρ1 => Tk ρ1 (fun rk ρ2 => dkK ρ2 r rk fun kvs key => wD (dkGet kvs key) fun d => R (.va (Fz d)) ρ2) E) E
theorem p_dg (hu : X.A.units + 65 < cLine) (ha : PEp c ek fl X a Ta) (hb : PEp c ek false X b Tb) (hs : NoSl b := by intro _ _; rfl) : PEp c ek fl X (.Subscript a b pos) (tDg Ta Tb) := by
  refine ⟨fun pins s σ H Q I h => ?_⟩
  obtain ⟨ρ, τ, R0, E0, S, hT, hQ, hE⟩ := h
  refine (pe_dget (by omega) ha hb hs).run pins s σ H Q I ⟨ρ, τ, _, E0, S, hT, fun r ρ1 v H1 h1 S1 => ⟨ρ1, (v, r) :: τ, _, E0, S1, h1, fun rk ρ2 y H2 h2 S2 => ?_, hE.1, fun z => by cases z⟩, hE⟩
  obtain ⟨kvs, key, d, e1, e2, e3, h3⟩ := h2.of
  obtain ⟨dd, e4, h4⟩ := h3.of
  obtain ⟨O, S2⟩ := S2
  obtain ⟨p, ws, rfl, ho, hp, hk, rr⟩ := S2.pop.ctF e1
  have hy := keyD_of (S2.vw e2) e3
  subst hy
  obtain ⟨w, e5, r5⟩ := (dk_get hk rr).1 dd e4
  exact ⟨p, w, rfl, by rw [← e5]; exact DGet.k hp, hQ _ _ _ _ h4 ⟨O, S2.pop.pop.push r5⟩⟩
/-- k in d -/
def tDi (neg : Bool) (Tk Td : TEp) : TEp := fun ρ R E => Tk ρ (fun rk ρ1 => nA rk <| Td ρ1 (fun r ρ2 => dkK ρ2 r rk fun kvs key => R (.va (Fz (.bl (neg != (dkGet kvs key).isSome)))) ρ2) E) E
def tDiT (neg : Bool) (Tk Td : TEp) : TTp := fun ρ R E => Tk ρ (fun rk ρ1 => nA rk <| Td ρ1 (fun r ρ2 => dkK ρ2 r rk fun kvs key => R (neg != (dkGet kvs key).isSome) ρ2) E) E
theorem di_core {Q : VK} {R0 : Bool → En → Prop} {E0 : Exn → En → Prop} {neg : Bool} (S : Sim c ρ τ σ H) (hT : tDiT neg Tb Ta ρ R0 E0) (hE : ek E0 σ ∧ (fl = true → NoAlf τ)) (hQ : ∀ k ρ' H', R0 k ρ' → Sim c ρ' τ σ H' → Q (.bl k) H') :
    rd c ek fl Tb σ H fun y H1 => rd c ek fl Ta σ H1 fun x H2 => ∃ a o, x = .ref a ∧ DGet H2 a y o ∧ Q (.bl (neg != o.isSome)) H2 := by
  refine ⟨ρ, τ, _, E0, S, hT, fun rk ρ1 y H1 h1 S1 => let ⟨h1, n⟩ := h1.of; ⟨ρ1, (y, rk) :: τ, _, E0, S1, h1, fun r ρ2 x H2 h2 S2 => ?_, hE.1, fun z => n (hE.2 z)⟩, hE⟩
  obtain ⟨kvs, key, d, e1, e2, e3, h3⟩ := h2.of
  obtain ⟨O, S2⟩ := S2
  obtain ⟨p, ws, rfl, ho, hp, hk, rr⟩ := S2.ctF e1
  have hy := keyD_of (S2.pop.vw e2) e3
  subst hy
  refine ⟨p, _, rfl, DGet.k hp, ?_⟩
  rw [(dk_get hk rr).2]
  exact hQ _ _ _ h3 ⟨O, S2.pop.pop⟩
theorem p_di (hu : X.A.units + 65 < cLine) (hb : PEp c ek fl X b Tb) (ha : PEp c ek fl X a Ta) (hm : behindInMarks .In a = false := by rfl) : PEp c ek fl X (.Compare b [.In] [a] pos) (tDi false Tb Ta) := by
  refine ⟨fun pins s σ H Q I h => ?_⟩
  obtain ⟨ρ, τ, R0, E0, S, hT, hQ, hE⟩ := h
  refine (pe_cmp (pc_din (by omega) hb ha) hm).run pins s σ H Q I ?_
  refine Eq.mp ?_ (di_core (Q := Q) (R0 := fun k ρ' => R0 (.va (Fz (.bl k))) ρ') (neg := false) S hT hE (fun k ρ' H' h S' => hQ _ _ _ _ h (S'.pushFz fun A => Rp.ofBl _)))
  simp only [Bool.false_bne]; rfl
theorem p_dni (hu : X.A.units + 65 < cLine) (hb : PEp c ek fl X b Tb) (ha : PEp c ek fl X a Ta) (hm : behindInMarks .NotIn a = false := by rfl) : PEp c ek fl X (.Compare b [.NotIn] [a] pos) (tDi true Tb Ta) := by
  refine ⟨fun pins s σ H Q I h => ?_⟩
  obtain ⟨ρ, τ, R0, E0, S, hT, hQ, hE⟩ := h
  refine (pe_cmp (pc_dnotin (by omega) hb ha) hm).run pins s σ H Q I ?_
  refine Eq.mp ?_ (di_core (Q := Q) (R0 := fun k ρ' => R0 (.va (Fz (.bl k))) ρ') (neg := true) S hT hE (fun k ρ' H' h S' => hQ _ _ _ _ h (S'.pushFz fun A => Rp.ofBl _)))
  simp only [Bool.true_bne]; rfl
theorem t_di (hu : X.A.units + 65 < cLine) (hb : PEp c ek fl X b Tb) (ha : PEp c ek fl X a Ta) (hm : behindInMarks .In a = false := by rfl) : PTp c ek fl X (.Compare b [.In] [a] pos) (tDiT false Tb Ta) := by
  refine ⟨fun pins s σ H Q I h => ?_⟩
  obtain ⟨ρ, τ, R0, E0, S, hT, hQ, hE⟩ := h
  refine (pt_cmp (pc_din (by omega) hb ha) hm).run pins s σ H Q I ?_
  refine Eq.mp ?_ (di_core (Q := fun v H => ∃ k, v = .bl k ∧ Q k H) (R0 := R0) (neg := false) S hT hE (fun k ρ' H' h S' => ⟨k, rfl, hQ _ _ _ h S'⟩))
  simp only [Bool.false_bne]; rfl
theorem t_dni (hu : X.A.units + 65 < cLine) (hb : PEp c ek fl X b Tb) (ha : PEp c ek fl X a Ta) (hm : behindInMarks .NotIn a = false := by rfl) : PTp c ek fl X (.Compare b [.NotIn] [a] pos) (tDiT true Tb Ta) := by
  refine ⟨fun pins s σ H Q I h => ?_⟩
  obtain ⟨ρ, τ, R0, E0, S, hT, hQ, hE⟩ := h
  refine (pt_cmp (pc_dnotin (by omega) hb ha) hm).run pins s σ H Q I ?_
  refine Eq.mp ?_ (di_core (Q := fun v H => ∃ k, v = .bl k ∧ Q k H) (R0 := R0) (neg := true) S hT hE (fun k ρ' H' h S' => ⟨k, rfl, hQ _ _ _ h S'⟩))
  simp only [Bool.true_bne]; rfl
/-- d[k] = e -/
def sDp (Td Tk Te : TEp) : TSp := fun ρ E => Te ρ (fun r ρ1 => match fzC ρ1 r with
  | some (d, ρ2) => Td ρ2 (fun rd ρ3 => isPl rd = true ∧ Tk ρ3 (fun rk ρ4 => dkK ρ4 rd rk fun kvs key => kvs.length < sizeLine ∧ E.nx (setR ρ4 rd (.dk (dkPut kvs key d)))) E.ex) E.ex
  | none => False) E.ex
theorem s_dp (hu : X.A.units + 65 < cLine) (ha : PEp c ek true X a Ta) (hb : PEp c ek false X b Tb) (he : PEp c ek true X e Te) (hs : swapsWith e (some (.Subscript a b pos')) pos.line X.env = pure false := by rfl) : PSp c ek X (.Assign [.Subscript a b pos'] e pos) (sDp Ta Tb Te) := by
  refine ⟨fun pins s σ H D I h => ?_⟩
  obtain ⟨ρ, τ, E, S, n, hT, q1, q2, q3, q4, q5⟩ := h
  refine (ps_dput (by omega) ha hb he hs).run pins s σ H D I ⟨ρ, τ, _, E.ex, S, hT, fun r ρ1 v H1 h1 S1 => ?_, q5 σ, fun _ => n.alf⟩
  obtain ⟨O, S1⟩ := S1
  split at h1
  · rename_i d ρ2 e1
    obtain ⟨O2, S2, rp, _⟩ := fzC_ok S1 e1
    have nt : NoAlf ((v, R.va (Fz d)) :: τ) := fun w i f m => by
      rcases List.mem_cons.mp m with z | m
      · cases z
      · exact n.alf w i f m
    refine ⟨ρ2, (v, .va (Fz d)) :: τ, _, E.ex, ⟨O2, S2.push rp⟩, h1, fun rdd ρ3 x H3 h3 S3 => ⟨ρ3, (x, rdd) :: (v, .va (Fz d)) :: τ, _, E.ex, S3, h3.2, fun rk ρ4 y H4 h4 S4 => ?_, q5 σ, fun z => by cases z⟩, q5 σ, fun _ => nt⟩
    obtain ⟨kvs, key, dd, e1, e2, e3, hz, h5⟩ := h4.of
    obtain ⟨O4, S4⟩ := S4
    have S5 := S4.pop
    obtain ⟨p, ws, rfl, ho, hp, hk, rr⟩ := S5.ctF e1
    have hy := keyD_of (S4.vw e2) e3
    subst hy
    have rv : Rp c.K H4 (c.av O4) d v := S5.pop.tm.1
    have hlen : ws.length = kvs.length := by simpa using congrArg List.length hk
    refine ⟨p, _, rfl, DPut.k hp (by rw [hlen]; exact hz), q1 _ _ _ h5 ⟨O4, ?_⟩⟩
    have S6 := S5.setPl (o := .dK (putK ws key v)) (fc' := .dk (dkPut kvs key d)) h3.1 e1 rfl ho hp (.inr (fun u2 i2 f2 m => by rcases List.mem_cons.mp m with z | m; cases z; obtain ⟨ct2, z⟩ := n _ _ m; cases z)) True.intro True.intro (fun P ex => by
      obtain ⟨k1, k2⟩ := dk_put (k := key) hk rr rv
      exact ⟨p, _, rfl, ho, upd_same, k1, ex.rps k2⟩)
    exact S6.pop
  · exact h1.elim
end
end Pm

namespace Pm
open PySem PySem.Spec PyProof.Rows L2
section
variable {c : Cc} {O O' : Ow} {H H' : Hp} {ρ ρ' : En} {τ τ' : List (V × R)} {σ σ' : St} {v : V} {ℓ ℓ' : Lab} {ct : Ct} {X : Cx} {ek : EK} {fl : Bool}
variable {a b e : Expr} {rest : List Expr} {Ta Tb Tc Td Te Tk : TEp} {TA' TB' TT' : TTp} {pos pos' : Pos} {T U : TSp} {TA TB : TAp} {es : List Expr}
/-! ### a dict comprehension -/
def keyK (ρ : En) (r : R) (k : Key → Prop) : Prop := wD (vw ρ r) fun d => match keyD d with
  | some key => k key
  | none => False
theorem keyK.of {r : R} {k : Key → Prop} (h : keyK ρ r k) : ∃ d key, vw ρ r = some d ∧ keyD d = some key ∧ k key := by
  unfold keyK at h
  obtain ⟨d, e, h⟩ := h.of
  split at h
  · rename_i key e2; exact ⟨d, key, e, e2, h⟩
  · exact h.elim
def dcK (g : Tg) (tt : TTp) (tk te : TEp) (own : List Nat) (E : Exn → En → Prop) (R : R → En → Prop) : List D → List (Key × D) → En → Prop
  | [], acc, ρ => R (.va (.at (.dk acc))) ρ
  | d :: ds, acc, ρ => oD (tgK g d (wipeE ρ own)) fun ρ2 => tt ρ2 (fun b ρ3 => if b = true then tk ρ3 (fun rk ρ4 => keyK ρ4 rk fun key => te ρ4 (fun r ρ5 => oD (fzC ρ5 r) fun p => acc.length < sizeLine ∧ dcK g tt tk te own E R ds (dkPut acc key p.1) (wipeE p.2 own)) E) E else dcK g tt tk te own E R ds acc (wipeE ρ3 own)) E
def tDcc (TI : TIp') (g : Tg) (tt : TTp) (tk te : TEp) (own : List Nat) : TEp := fun ρ R E => TI ρ (fun ds ρ1 => dcK g tt tk te own E R ds [] (wipeE ρ1 own)) E
theorem Sim0.dkTop {D' : Addr} {kvs : List (Key × D)} {k : Key} {d : D} (S : Sim0 c H O ρ ((.ref D', .va (.at (.dk kvs))) :: τ) σ) (r : Rp c.K H (c.av O) d v) :
    ∃ ws, H D' = some (.dK ws) ∧ ws.length = kvs.length ∧ Sim0 c (upd H D' (.dK (putK ws k v))) O ρ ((.ref D', .va (.at (.dk (dkPut kvs k d)))) :: τ) σ := by
  obtain ⟨a, ws, e, o, ha, hk, rr⟩ := S.tm.1
  cases e
  have ex := Ext.wr (c := c) (O := O) (o := .dK (putK ws k v)) ha True.intro o
  obtain ⟨w1, w2, w3⟩ := S.wr (o := .dK (putK ws k v)) ha o True.intro
  have S' := S.pop
  obtain ⟨k1, k2⟩ := dk_put (k := k) hk rr r
  refine ⟨ws, ha, by simpa using congrArg List.length hk, S.len, w1, w2, w3, S.io, fun i ct q n => ?_, ⟨D', _, rfl, o, upd_same, k1, ex.rps k2⟩, S'.tm.mono ex (fun k m b hk z => by cases z.1; omega) (fun w i f m x C dx vfs hx z => by cases z.1)⟩
  obtain ⟨w, e1, e2⟩ := S'.sl i ct q n
  exact ⟨w, e1, e2.mono ex (fun m b z => by cases z.1)⟩
theorem dc_rd {TI : TIp'} {g : Tg} {tt : TTp} {tk te : TEp} {own : List Nat} {Q : VK} (hown : ∀ i ∈ own, c.nb ≤ i) (hlk : ∀ i ∈ own, i ∉ c.lock) (hg : ∀ i ∈ g.sl, i ∈ own) (hek : ∀ E0 σ σ', ek E0 σ → ek E0 σ')
    (h : rd c ek fl (tDcc TI g tt tk te own) σ H Q) : tDc (rdI c ek fl TI) (rdG c g) (rdT c ek fl tt) (rd c ek fl tk) (rd c ek fl te) own σ H Q := by
  obtain ⟨ρ, τ, R0, E0, S, hT, hQ, hE⟩ := h
  refine ⟨ρ, τ, _, _, S, hT, fun ds ρ1 J H1 τi h1 hJ ni S1 => ?_, hE⟩
  intro L hL
  have clean : ∀ acc, fl = true → NoAlf ((V.ref L, R.va (.at (.dk acc))) :: (τi ++ τ)) := fun acc z w i f m => by
    rcases List.mem_cons.mp m with e | m
    · cases e
    · rcases List.mem_append.mp m with m | m
      · obtain ⟨ct, e⟩ := ni w _ m; cases e
      · exact hE.2 z w i f m
  let Inv' : Nat → Hp → Prop := fun i H => ∃ ρ acc, Sim c ρ ((.ref L, .va (.at (.dk acc))) :: (τi ++ τ)) (wipe σ own) H ∧ (∀ j ∈ own, ∀ ct, ρ[j]? = some ct → ct = .no) ∧ dcK g tt tk te own E0 R0 (ds.drop i) acc ρ
  refine ⟨fun i m H => m = ds.length - i ∧ i ≤ ds.length ∧ Inv' i H, ⟨ds.length, by simp, Nat.zero_le _, wipeE ρ1 own, [], ?_, fun j hj ct q => wipeE_in hj ct q, h1⟩, ?_⟩
  · obtain ⟨O, S1⟩ := S1
    have S2 : Sim0 c (upd H1 L (.dK [])) (O.set L (some (.t (τi ++ τ).length, none))) ρ1 ((.ref L, .va (.at (.dk []))) :: (τi ++ τ)) σ := (S1.new (o := .dK []) hL fun _ => True.intro).push ⟨L, [], rfl, Ow.set_same, upd_same, rfl, .nil⟩
    exact ⟨_, S2.wipe hown hlk (wipe_length σ own) (fun i hi => wipe_outS hi)⟩
  · rintro i m H2 ⟨rfl, hi, ρ2, acc, S2, hno, hk⟩
    obtain ⟨j1, j2⟩ := hJ (wipe σ own) H2 ρ2 [(.ref L, .va (.at (.dk acc)))] τ i S2
    by_cases hlt : i < ds.length
    · have hd : ds[i]? = some ds[i] := List.getElem?_eq_getElem hlt
      obtain ⟨jg, jy⟩ := j1 _ hd
      rw [List.drop_eq_getElem_cons hlt] at hk
      unfold dcK at hk
      refine .inr ⟨jg, fun H' => Inv' (i + 1) H', fun H' hN => ⟨ds.length - (i + 1), by omega, rfl, hlt, hN⟩, fun x H' y => ?_⟩
      obtain ⟨O, S3, rp⟩ := jy x H' y
      obtain ⟨ρ', e1, hk⟩ := hk.of
      refine ⟨wipeE ρ2 own, _, ds[i], ρ', O, S3.wipe hown hlk rfl (fun _ _ => rfl), .inr (fun j hj => hown j (hg j hj)), rp, e1, fun σ2 agr S4 => ⟨wipe_agr agr hg, ?_⟩⟩
      have back : ∀ {ρ5 : En} {H5 : Hp} {O5 : Ow} {acc : List (Key × Pm.D)}, Sim0 c H5 O5 ρ5 ((.ref L, .va (.at (.dk acc))) :: (τi ++ τ)) σ2 → Sim0 c H5 O5 (wipeE ρ5 own) ((.ref L, .va (.at (.dk acc))) :: (τi ++ τ)) (wipe σ own) := fun {ρ5 H5 O5 acc} S =>
        S.wipe hown hlk agr.1.symm (fun j hj => (agr.2 j (fun z => hj (hg j z))).symm)
      refine ⟨ρ', _, _, E0, ⟨O, S4⟩, hk, fun b ρ3 H3 h3 S5 => ?_, hek _ _ _ hE.1, clean acc⟩
      cases b with
      | false =>
        rw [if_neg Bool.false_ne_true] at h3 ⊢
        obtain ⟨O5, S5⟩ := S5
        exact ⟨_, acc, ⟨_, back S5⟩, fun j hj ct q => wipeE_in hj ct q, h3⟩
      | true =>
        rw [if_pos rfl] at h3 ⊢
        refine ⟨ρ3, _, _, E0, S5, h3, fun rk ρ4 y H4 h4 S6 => ?_, hek _ _ _ hE.1, clean acc⟩
        obtain ⟨dd, key, e4, e5, h5⟩ := h4.of
        have hy : y = kV key := by
          obtain ⟨O6, S6⟩ := S6
          exact keyD_of (S6.vw e4) e5
        refine ⟨ρ4, _, _, E0, S6.pop, h5, fun r ρ5 z H5 h6 S7 => ?_, hek _ _ _ hE.1, clean acc⟩
        obtain ⟨p, e6, h7⟩ := h6.of
        obtain ⟨dy, ρ6⟩ := p
        obtain ⟨O7, S7⟩ := S7
        obtain ⟨O8, S8, r8, _⟩ := fzC_ok S7 e6
        obtain ⟨ws, hv, hl, S9⟩ := S8.dkTop (k := key) r8
        exact ⟨ws, key, hy, hv, by rw [hl]; exact h7.1, _, _, ⟨_, back S9⟩, fun j hj ct q => wipeE_in hj ct q, h7.2⟩
    · have e : i = ds.length := by omega
      subst e
      rw [List.drop_length] at hk
      unfold dcK at hk
      refine .inl ⟨j2 (Nat.le_refl _), hQ _ _ _ _ hk (Sim.mid (τi := τi) ?_)⟩
      obtain ⟨O, S2⟩ := S2
      have := S2.wipe (σ' := σ) hown hlk (wipe_length σ own).symm (fun j hj => (wipe_outS hj).symm)
      rw [wipeE_eq hno] at this
      exact ⟨O, this⟩
section
variable {kx vx tg iter : Expr} {ifs : List Expr} {scope : Scope} {own : List (Str × Nat)} {TI : TIp'} {g : Tg} {tt : TTp}
theorem p_dc (hc : X.calm = true) (hN : X.N.Nodup) (hi : PIp' c ek0 fl X tg iter TI) (ok : BlkOk X.N X.env.scope scope own) (hown : ∀ i ∈ own.map (·.2), c.nb ≤ i) (hlk : ∀ i ∈ own.map (·.2), i ∉ c.lock) (hsl : ∀ i ∈ g.sl, i ∈ own.map (·.2))
    (hg : ∀ (s : Shared) (H : Hp) (C : Addr) (cl : List (Str × Addr)) (fp : List Addr), PGp c (X.blk s H scope (compEnvC scope cl C X.env) fp) tg g) (ht : ∀ (s : Shared) (H : Hp) (C : Addr) (cl : List (Str × Addr)) (fp : List Addr), PTsp c ek0 fl (X.blk s H scope (compEnvC scope cl C X.env) fp) ifs tt)
    (hk : ∀ (s : Shared) (H : Hp) (C : Addr) (cl : List (Str × Addr)) (fp : List Addr), PEp c ek0 fl (X.blk s H scope (compEnvC scope cl C X.env) fp) kx Tk) (he : ∀ (s : Shared) (H : Hp) (C : Addr) (cl : List (Str × Addr)) (fp : List Addr), PEp c ek0 fl (X.blk s H scope (compEnvC scope cl C X.env) fp) vx Te) (hs : ∀ x, foldedSetIterable iter X.env x = pure x := by intro _; rfl) :
    PEp c ek0 fl X (.DictComp kx vx [⟨tg, iter, ifs, 0⟩] scope pos) (tDcc TI g tt Tk Te (own.map (·.2))) :=
  ⟨fun pins s σ H Q I h => (pe_dc hc hN hi ok hg ht hk he hs).run pins s σ H Q I (dc_rd hown hlk hsl ek0_any h)⟩
/-- y = {k: v for ..} -/
theorem swd_or {gs : List Comprehension} {py : Pos} {y : Str} {l : Nat} {env : Env} : swapsWith (.DictComp kx vx gs scope pos) (some (.Name y py)) l env = pure true ∨ swapsWith (.DictComp kx vx gs scope pos) (some (.Name y py)) l env = pure false := by
  unfold swapsWith
  simp only [Expr.pos]
  generalize (env.blockKind == .function && env.kindOf y == some .local && py.line == pos.line && !(scope.names.any fun (n, k) => n == y && (k == .local || k == .cell))) = b
  cases b
  · exact .inr rfl
  · exact .inl rfl
theorem s_setDc (j : Nat) {y : Str} {py spos : Pos} (hc : X.calm = true) (hN : X.N.Nodup) (hj : j ∉ c.lock) (hi : PIp' c ek0 true X tg iter TI) (ok : BlkOk X.N X.env.scope scope own) (hown : ∀ i ∈ own.map (·.2), c.nb ≤ i) (hlk : ∀ i ∈ own.map (·.2), i ∉ c.lock) (hsl : ∀ i ∈ g.sl, i ∈ own.map (·.2))
    (hg : ∀ (s : Shared) (H : Hp) (C : Addr) (cl : List (Str × Addr)) (fp : List Addr), PGp c (X.blk s H scope (compEnvC scope cl C X.env) fp) tg g) (ht : ∀ (s : Shared) (H : Hp) (C : Addr) (cl : List (Str × Addr)) (fp : List Addr), PTsp c ek0 true (X.blk s H scope (compEnvC scope cl C X.env) fp) ifs tt)
    (hk : ∀ (s : Shared) (H : Hp) (C : Addr) (cl : List (Str × Addr)) (fp : List Addr), PEp c ek0 true (X.blk s H scope (compEnvC scope cl C X.env) fp) kx Tk) (he : ∀ (s : Shared) (H : Hp) (C : Addr) (cl : List (Str × Addr)) (fp : List Addr), PEp c ek0 true (X.blk s H scope (compEnvC scope cl C X.env) fp) vx Te)
    (hy : X.N[j]? = some y := by rfl) (hyl : X.env.scope.names.lookup y = some .local := by rfl) (hs : ∀ x, foldedSetIterable iter X.env x = pure x := by intro _; rfl) :
    PSp c ek0 X (.Assign [.Name y py] (.DictComp kx vx [⟨tg, iter, ifs, 0⟩] scope pos) spos) (sSet j (tDcc TI g tt Tk Te (own.map (·.2)))) := by
  rcases swd_or (kx := kx) (vx := vx) (scope := scope) (pos := pos) (gs := [⟨tg, iter, ifs, 0⟩]) (py := py) (y := y) (l := spos.line) (env := X.env) with hw | hw
  · refine ⟨fun pins s σ H D I h => ?_⟩
    obtain ⟨ρ, τ, E, S, n, hT, q1, q2, q3, q4, q5⟩ := h
    have hd := dc_rd (fl := true) (Q := fun x H1 => gName j x σ H1 D.nx) hown hlk hsl ek0_any ⟨ρ, τ, _, _, S, hT, fun r ρ' v H' h1 S1 => (by
      obtain ⟨ct, ρ2, h2, O, S2⟩ := stC_ok S1 h1
      exact q1 _ _ _ h2 (S2.put n hj)), q5 σ, fun _ => n.alf⟩
    rw [exec_Assign_Name_used _ _ _ _ hw]
    refine wpAny_bind (wpAny_standAt (wpAny_bind ?_))
    show wpAny _ X.A (do let _ ← comprehension (.DictComp kx vx [⟨tg, iter, ifs, 0⟩] scope pos) scope X.env (firstIterPos [⟨tg, iter, ifs, 0⟩] pos) newDict false (eval iter X.env) (some (assign (.Name y py) X.env))) _ _ s
    refine wpAny_bind (thn (dc_core (Qf := fun _ s' => SP X pins D .next s') hc hN I hi ok hg ht hk he hs hd fun L C s1 m H1 I1 hq hn hf => ?_) fun _ s1 hq => wpAny_pure (wpAny_pure hq))
    show wpAny _ _ (assign (.Name y py) X.env (.ref L)) _ _ _
    refine wpAny_assign_Name (store_ok2 (v := V.ref L) I1 hN hy (.inl hyl) rfl (fun s2 I2 hsb => ?_) (.inr hyl))
    obtain ⟨a2, sb, ha⟩ := hsb
    obtain ⟨f0, f1, f2, f3, f4, f5⟩ := hf
    have neC : C ≠ a2 := ha.elim (fun z => by rw [z]; exact f1) fun z e => f4 y a2 z e.symm
    exact ⟨m, hn.sameBut sb neC, fun h3 sb3 => ⟨_, H1, I2.turned (t' := s2.toks) (fun b o hb e => (sb3.2 b hb).trans e) f0 f1 f3 f4 f5, hq⟩⟩
  · exact s_set j hN (p_dc hc hN hi ok hown hlk hsl hg ht hk he hs) hj hy (.inl hyl) hw (.inr hyl)
end
end
/-! ### math.lcm -/
def rLcm : List V → Hp → VK → Prop := fun vs H Q => ∃ i j : Int, vs = [.int i, .int j] ∧ (i.natAbs.log2 < 9000 ∧ j.natAbs.log2 < 9000) ∧ Q (.int ((Nat.lcm i.natAbs j.natAbs : Nat) : Int)) H
theorem log2_max {a b : Nat} (h1 : a.log2 < 9000) (h2 : b.log2 < 9000) : (max a b).log2 < 9000 := by
  rcases Nat.le_total a b with h | h
  · rw [Nat.max_eq_right h]; exact h2
  · rw [Nat.max_eq_left h]; exact h1
theorem lt_of_log2 {a k : Nat} (h : a.log2 < k) : a < 2 ^ k := by
  by_cases h0 : a = 0
  · subst h0; exact Nat.pos_of_ne_zero (by simp)
  · exact (Nat.log2_lt h0).mp h
theorem cr_lcm {X : Cx} : CallR X (.builtin "math.lcm") rLcm := by
  intro pins s σ H vs us Q I r h
  obtain ⟨i, j, rfl, ⟨hi, hj⟩, q⟩ := h
  obtain ⟨t, u, rfl⟩ := Vals.int2 r
  have h1 := log2_max (a := 1) (by decide) hi
  have h2 := log2_max hi hj
  have hl : Nat.lcm (Nat.lcm 1 i.natAbs) j.natAbs = Nat.lcm i.natAbs j.natAbs := by rw [PySem.W.mc_lcm_one]
  have hz : ((Nat.lcm i.natAbs j.natAbs : Nat) : Int).natAbs.log2 < bitsLine := by
    rw [Int.natAbs_natCast]
    have hm : Nat.lcm i.natAbs j.natAbs < 2 ^ 18000 := by
      refine Nat.lt_of_le_of_lt (PySem.W.mc_lcm_le _ _) ?_
      have e : (2 : Nat) ^ 18000 = 2 ^ 9000 * 2 ^ 9000 := by rw [← Nat.pow_add]
      rw [e]
      exact Nat.mul_lt_mul_of_lt_of_lt (lt_of_log2 hi) (lt_of_log2 hj)
    by_cases h0 : Nat.lcm i.natAbs j.natAbs = 0
    · rw [h0, Nat.log2_zero]; decide
    · exact Nat.lt_of_lt_of_le ((Nat.log2_lt h0).mpr hm) (by decide)
  have g := PySem.W.mg_run_lcm i t j u (by omega) (by omega) (by rw [hl]; exact hz)
  rw [hl] at g
  exact call_function_meets PySem.W.MGF.kind_lcm PySem.W.MGF.plain_lcm PySem.W.MGF.entry_lcm (PySem.W.MGF.args_lcm _ _) g.meets ⟨.int _, H, I.tok _, ⟨_, rfl⟩, q⟩
def fLcm (d d2 : D) (R : D → Prop) : Prop := match d, d2 with
  | .int i, .int j => (i.natAbs.log2 < 9000 ∧ j.natAbs.log2 < 9000) ∧ R (.int ((Nat.lcm i.natAbs j.natAbs : Nat) : Int))
  | _, _ => False
theorem lcm_ok {c : Cc} : CbOk c rLcm (cD2 fLcm) := cD2_ok fun A H v w d d2 Q R0 hv hw hf hQ => by
  unfold fLcm at hf
  split at hf
  · exact ⟨_, _, by rw [hv.int, hw.int], hf.1, hQ _ _ hf.2 (Pl.int _)⟩
  · exact hf.elim
end Pm

set_option maxHeartbeats 1000000
namespace Pm
open PySem PySem.Spec PyProof.Rows L2
/-! ### a set comprehension of ints -/
section
variable {X : Cx}
abbrev ScTurn (w : World) (L : Addr) (te : TE) (Nx : Hp → Prop) (b : Bool) (σ2 : L2.St) (H3 : Hp) : Prop :=
  if b = true then te σ2 H3 fun y H4 => ∃ (k : Int) (S : Int → Bool) (n : Nat), y = .int k ∧ H4 L = some (SetO w L S n) ∧ n + 1 < scanBound ∧ Nx (upd H4 L (SetO w L (fun j => S j || decide (j = k)) (if S k = true then n else n + 1))) else Nx H3
def tScI (w : World) (wi : TI) (g : TG) (tt : TT) (te : TE) (vs : List Nat) : TE := fun σ H Q => wi σ H fun J H1 => ∀ L, H1 L = none →
  ∃ W : Nat → Nat → Hp → Prop, (∃ m, W 0 m (upd H1 L (SetO w L (fun _ => false) 0))) ∧ ∀ i m H, W i m H → (J.stop i H ∧ Q (.ref L) H) ∨ (J.go i H ∧
    ∃ Nx : Hp → Prop, (∀ H', Nx H' → ∃ m', m' < m ∧ W (i + 1) m' H') ∧ ∀ x H', J.yld i H x H' → g x (wipe σ vs) H' fun σ2 H2 => wipe σ2 vs = wipe σ vs ∧ tt σ2 H2 fun b H3 => ScTurn w L te Nx b σ2 H3)
theorem sci_core {pins : List (Addr × Obj)} {s : Shared} {σ : L2.St} {H : Hp} {Q : VK} {elt tg iter : Expr} {ifs : List Expr} {scope : Scope} {own : List (Str × Nat)} {pos pos' : Pos} {wi : TI} {g : TG} {tt : TT} {te : TE} (hcalm : X.calm = true) (hnodup : X.N.Nodup) (I0 : Inv X pins σ H s) (hiter : PI X tg iter wi) (blk : BlkOk X.N X.env.scope scope own)
    (hg : ∀ (s : Shared) (H : Hp) (C : Addr) (cl : List (Str × Addr)) (fp : List Addr), PG (X.blk s H scope (compEnvC scope cl C X.env) fp) tg g) (ht : ∀ (s : Shared) (H : Hp) (C : Addr) (cl : List (Str × Addr)) (fp : List Addr), PTs (X.blk s H scope (compEnvC scope cl C X.env) fp) ifs tt)
    (he : ∀ (s : Shared) (H : Hp) (C : Addr) (cl : List (Str × Addr)) (fp : List Addr), PE (X.blk s H scope (compEnvC scope cl C X.env) fp) elt te) (hfold : ∀ x, foldedSetIterable iter X.env x = pure x) (hT : tScI X.w wi g tt te (own.map (·.2)) σ H Q) :
    wpAny (model X.prog X.w) X.A (comprehension (.SetComp elt [⟨tg, iter, ifs, 0⟩] scope pos) scope X.env pos' (newSet (.type "set")) false (eval iter X.env)) (EP X pins σ Q) X.xe s := by
  refine wpAny_comprehension_free rfl hfold (closure_ok fun y hy e => (blk.free y hy e).elim (fun k => I0.ok.has _ (.inl k)) fun k => I0.ok.has _ (.inr k)) blk.kind (fun y hy e => by rw [blk.uniq y hy, e])
    (thn (hiter.run pins s σ H _ I0 hT) fun xv s1 hx => thn hx fun itv s2 hx2 => ?_)
  obtain ⟨it, fp, tn, J, H2, rfl, I2, T, st2, f2, hW⟩ := hx2
  refine PpSet.newSet_ok (newEnv_comp ?_)
  generalize hL : s2.heap.objs.size = L
  have hLn : H2 L = none := I2.hok.fresh (Nat.le_of_eq hL)
  obtain ⟨W, ⟨m0, w0⟩, turn⟩ := hW L hLn
  generalize hob : (SetO X.w L (fun _ => false) 0) = ob at w0
  generalize hs3 : ({ s2 with heap := s2.heap.push { cls := .type "set", dict := none, data := .set #[] 0 (.fresh 0 0 (!X.w.params.followText "set-order")) } } : Shared) = s3
  have I3 : Inv X pins σ (upd H2 L ob) s3 := by
    subst hs3 hob
    exact I2.laid (t' := s2.toks) (fun b o e => Heap.get?_push_of_some _ e) (Nat.le_of_eq hL) (by subst hL; exact setO_new (setR_fresh X.w))
  have kept3 : ∀ b o, s2.heap.get? b = some o → s3.heap.get? b = some o := fun b o e => by subst hs3; exact Heap.get?_push_of_some _ e
  have size3 : s3.heap.objs.size = s2.heap.objs.size + 1 := by subst hs3; exact Heap.size_push _ _
  have below : ∀ b ∈ fp, b < s2.heap.objs.size := fun b hb => let ⟨o, e, _⟩ := T.obj _ _ st2 b hb; Heap.lt_size e
  have f3 : ∀ b ∈ fp, FpOk X pins (upd H2 L ob) b ∧ b < s3.heap.objs.size := fun b hb => by
    have hlt := below b hb
    exact ⟨⟨by rw [upd_ne (by rw [← hL]; exact Nat.ne_of_lt hlt)]; exact (f2 b hb).1, (f2 b hb).2⟩, by rw [size3]; exact Nat.lt_succ_of_lt hlt⟩
  have st3 : tn 0 s3.heap := T.keep _ _ _ st2 fun b _ o e => kept3 b o e
  have I4 := block_start I3 blk hnodup f3
  generalize hcl : cellsFrom (s3.heap.objs.size + 1) scope.names (cloFrom X.env.cells scope.names []) = cl at I4
  have pg := hg s3 (upd H2 L ob) s3.heap.objs.size cl fp
  have pt := ht s3 (upd H2 L ob) s3.heap.objs.size cl fp
  have pe := he s3 (upd H2 L ob) s3.heap.objs.size cl fp
  have none3 : ∀ b ∈ fp, (upd H2 L ob) b = none := fun b hb => (f3 b hb).1.1
  show codeAny _ _ (.compStart (.SetComp elt [⟨tg, iter, ifs, 0⟩] scope pos) 0 (.ref it) (.ref L) (compEnvC scope cl s3.heap.objs.size X.env)) (compPost (model X.prog X.w) X.A X.xe none (EP X pins σ Q) (.ref L) s3.heap.objs.size) { s3 with heap := pushCells (s3.heap.push { cls := .type "dict", data := .dict #[] }) scope.names }
  generalize hce : compEnvC scope cl s3.heap.objs.size X.env = ce at I4 pg pt pe ⊢
  have locs : ce.locals = s3.heap.objs.size := by subst hce; rfl
  generalize hH3 : upd H2 L ob = H3 at I3 I4 pg pt pe w0 none3 f3
  generalize hs4 : ({ s3 with heap := pushCells (s3.heap.push { cls := .type "dict", data := .dict #[] }) scope.names } : Shared) = s4 at I4 ⊢
  have st4 : tn 0 s4.heap := T.keep _ _ _ st3 fun b _ o e => by subst hs4; exact pushCells_keeps _ _ _ _ (Heap.get?_push_of_some _ e)
  let Y := X.blk s3 H3 scope ce fp
  let vs := own.map (·.2)
  have fpk : ∀ {σ' : L2.St} {H' : Hp} {s' : Shared}, Inv Y [] σ' H' s' → (∀ b ∈ fp, H' b = none) → ∀ b ∈ fp, FpOk Y [] H' b := fun {σ' H' s'} I' hn b hb =>
    ⟨hn b hb, (I'.ok.exf b hb).1, I'.ok.exfs b hb, .inl hb, fun x cx e => (I'.ok.exf b hb).2 x cx e, fun p hp => absurd (show p ∈ ([] : List (Addr × Obj)) ++ [] from hp) List.not_mem_nil⟩
  have loop : codeAny (model X.prog X.w) X.A (.compLoop (.SetComp elt [⟨tg, iter, ifs, 0⟩] scope pos) 0 (.ref it) (.ref L) ce) (compPost (model X.prog X.w) X.A X.xe none (EP X pins σ Q) (.ref L) s3.heap.objs.size) s4 := by
    refine PpSet.compLoopS_any (fun n s' => ∃ i H', Inv Y [] (wipe σ vs) H' s' ∧ tn i s'.heap ∧ (∀ b ∈ fp, H' b = none) ∧ W i n H') ?_ m0 ⟨0, H3, I4, st4, none3, w0⟩
    rintro n s5 ⟨i, H5, I5, st5, n5, w5⟩
    rcases turn i n H5 w5 with ⟨stop, hq⟩ | ⟨go, Nx, hNx, step⟩
    · refine thnF (T.done Y rfl rfl rfl hcalm i [] s5 _ H5 (fun _ _ => False) I5 (fpk I5 n5) st5 stop) fun r s6 hr6 => ?_
      obtain ⟨rfl, I6⟩ := hr6
      have I7 : Inv X pins σ H5 s6 := I3.call' (ch := fp) I6.os I6.base I6.hok I6.bare fun b hb => ⟨(f3 b hb).1.2.2.2.1, (f3 b hb).1.2.1, (f3 b hb).1.2.2.2.2.1, (f3 b hb).1.2.2.2.2.2⟩
      have freeC : H5 s3.heap.objs.size = none := by rw [← locs]; exact I6.free
      obtain ⟨m, hm, _⟩ := I6.loc
      have hm : s6.heap.Ns s3.heap.objs.size m := by rw [← locs]; exact hm
      obtain ⟨g0, g1, g2, g3, g4, g5⟩ := I3.fpOk (Nat.le_refl _) freeC
      exact ⟨m, hm, fun h'' sb => ⟨.ref L, H5, I7.turned (t' := s6.toks) (fun b o hb e => (sb.2 b hb).trans e) g0 g1 g3 g4 g5, rfl, hq⟩⟩
    · refine thnF (T.item Y rfl rfl rfl hcalm i [] s5 _ H5 (fun _ _ => False) I5 (fpk I5 n5) st5 go) fun r s6 hr6 => ?_
      obtain ⟨u, rfl, h6⟩ := hr6
      refine thnF h6 fun _ s7 h7 => ?_
      obtain ⟨x, H7, I7, r7, y7, st7, n7⟩ := h7
      refine thnF (pg.run _ s7 _ H7 x u _ (I7.pinned (fpk I7 n7) (T.obj _ _ st7)) r7 (step x H7 y7)) fun _ s8 h8 => ?_
      obtain ⟨σ8, H8, I8, hw8, q8⟩ := h8
      refine thnF (pt.run _ s8 σ8 H8 _ I8 q8) fun b s9 h9 => ?_
      obtain ⟨H9, I9, q9⟩ := h9
      have fin : ∀ {s' : Shared} {H' : Hp}, Inv Y ([] ++ pinsAt fp s7.heap) σ8 H' s' → Nx H' → ∃ m, m < n ∧ ∃ i H', Inv Y [] (wipe σ vs) H' s' ∧ tn i s'.heap ∧ (∀ b ∈ fp, H' b = none) ∧ W i m H' := fun {s' H'} I' nx => by
        obtain ⟨m', hm, w'⟩ := hNx H' nx
        have pinned : ∀ b ∈ fp, ∀ o, s7.heap.get? b = some o → s'.heap.get? b = some o ∧ H' b = none := fun b hb o e =>
          let z := I'.pin (b, o) (List.mem_append_right _ (List.mem_append_right _ (mem_pinsAt hb e))); ⟨z.1, z.2.1⟩
        refine ⟨m', hm, i + 1, H', (I'.unpinned (pins := [])).weak (by rw [← hw8, wipe_length]) (fun j v e => ?_), T.keep _ _ _ st7 fun b hb o e => (pinned b hb o e).1, fun b hb => let ⟨o, e, _⟩ := T.obj _ _ st7 b hb; (pinned b hb o e).2, w'⟩
        rw [← hw8] at e
        exact (wipe_some e).1
      unfold ScTurn at q9
      cases b with
      | false => rw [if_neg Bool.false_ne_true] at q9; exact fin I9 q9
      | true =>
        rw [if_pos rfl] at q9
        refine thnF (pe.run _ s9 σ8 H9 _ I9 q9) fun z s10 h10 => ?_
        obtain ⟨yv, H10, I10, r10, k, S0, n0, ey, hS0, room, nx⟩ := h10
        rw [ey] at r10
        obtain ⟨tk, hz⟩ := (show ∃ t, z = Value.int k t from r10)
        subst hz
        have R0 := setO_get I10 hS0
        refine setR_add R0 room fun h' sb new => fin ?_ nx
        exact I10.write (e := L) (t' := s10.toks + 1) (by rw [hS0]; trivial) (.inl rfl) (fun b u hb hu => (sb.2 b hb).trans hu) (let ⟨o, _, _, _, ho, _⟩ := new; ⟨o, ho⟩) (setO_new new)
  exact PpSet.codeAny_compStart_set loop (T.self X.A 0 _ _ _ st4 loop)
theorem pe_sci {elt tg iter : Expr} {ifs : List Expr} {scope : Scope} {own : List (Str × Nat)} {pos : Pos} {wi : TI} {g : TG} {tt : TT} {te : TE} (hc : X.calm = true) (hN : X.N.Nodup) (hi : PI X tg iter wi) (ok : BlkOk X.N X.env.scope scope own)
    (hg : ∀ (s : Shared) (H : Hp) (C : Addr) (cl : List (Str × Addr)) (fp : List Addr), PG (X.blk s H scope (compEnvC scope cl C X.env) fp) tg g) (ht : ∀ (s : Shared) (H : Hp) (C : Addr) (cl : List (Str × Addr)) (fp : List Addr), PTs (X.blk s H scope (compEnvC scope cl C X.env) fp) ifs tt)
    (he : ∀ (s : Shared) (H : Hp) (C : Addr) (cl : List (Str × Addr)) (fp : List Addr), PE (X.blk s H scope (compEnvC scope cl C X.env) fp) elt te) (hs : ∀ x, foldedSetIterable iter X.env x = pure x := by intro _; rfl) :
    PE X (.SetComp elt [⟨tg, iter, ifs, 0⟩] scope pos) (tScI X.w wi g tt te (own.map (·.2))) := by
  refine ⟨fun pins s σ H Q I h => ?_⟩
  rw [PpSet.eval_SetComp]
  exact sci_core hc hN I hi ok hg ht he hs h
end
end Pm

namespace Pm
open PySem PySem.Spec PyProof.Rows L2
/-! ### sorted({x[k] for x in e}) -/
def insU (x : Int) : List Int → List Int
  | [] => [x]
  | y :: l => if x < y then x :: y :: l else if x = y then y :: l else y :: insU x l
def srtU (ns : List Int) : List Int := ns.foldr insU []
theorem insU_mem {x z : Int} : ∀ {l : List Int}, z ∈ insU x l ↔ z = x ∨ z ∈ l
  | [] => by simp [insU]
  | y :: l => by
    unfold insU
    split
    · simp
    · split
      · rename_i h; subst h; simp
      · simp only [List.mem_cons, insU_mem (l := l)]
        constructor
        · rintro (h | h | h)
          · exact .inr (.inl h)
          · exact .inl h
          · exact .inr (.inr h)
        · rintro (h | h | h)
          · exact .inr (.inl h)
          · exact .inl h
          · exact .inr (.inr h)
theorem insU_ord {x : Int} : ∀ {l : List Int}, l.Pairwise (· < ·) → (insU x l).Pairwise (· < ·)
  | [], _ => by simp [insU]
  | y :: l, h => by
    unfold insU
    rw [List.pairwise_cons] at h
    split
    · rename_i hx
      rw [List.pairwise_cons, List.pairwise_cons]
      refine ⟨fun z hz => ?_, h⟩
      rcases List.mem_cons.mp hz with e | hz
      · omega
      · have := h.1 z hz; omega
    · split
      · rw [List.pairwise_cons]; exact h
      · rw [List.pairwise_cons]
        refine ⟨fun z hz => ?_, insU_ord h.2⟩
        rcases insU_mem.mp hz with e | hz
        · omega
        · exact h.1 z hz
theorem srtU_mem {z : Int} : ∀ {ns : List Int}, z ∈ srtU ns ↔ z ∈ ns
  | [] => by simp [srtU]
  | n :: ns => by
    show z ∈ insU n (srtU ns) ↔ _
    rw [insU_mem, srtU_mem (ns := ns), List.mem_cons]
theorem srtU_ord : ∀ {ns : List Int}, (srtU ns).Pairwise (· < ·)
  | [] => by simp [srtU]
  | n :: ns => insU_ord (srtU_ord (ns := ns))
theorem asc_eq : ∀ {l m : List Int}, l.Pairwise (· < ·) → m.Pairwise (· < ·) → (∀ z, z ∈ l ↔ z ∈ m) → l = m
  | [], [], _, _, _ => rfl
  | [], y :: m, _, _, h => by have := (h y).mpr (by simp); cases this
  | x :: l, [], _, _, h => by have := (h x).mp (by simp); cases this
  | x :: l, y :: m, h1, h2, h => by
    rw [List.pairwise_cons] at h1 h2
    have e : x = y := by
      have a := (h x).mp (by simp)
      have b := (h y).mpr (by simp)
      rcases List.mem_cons.mp a with a | a
      · exact a
      rcases List.mem_cons.mp b with b | b
      · exact b.symm
      have := h1.1 y b; have := h2.1 x a; omega
    subst e
    rw [asc_eq h1.2 h2.2 fun z => ?_]
    constructor
    · intro hz
      rcases List.mem_cons.mp ((h z).mp (List.mem_cons_of_mem _ hz)) with e | q
      · have := h1.1 z hz; omega
      · exact q
    · intro hz
      rcases List.mem_cons.mp ((h z).mpr (List.mem_cons_of_mem _ hz)) with e | q
      · have := h2.1 z hz; omega
      · exact q
def seqD : D → Option (List D)
  | .lst l => some l
  | .tup l => some l
  | _ => none
def colD (k : Int) (d : D) : Option Int := match seqD d with
  | some l => match atI l k with
    | some (.int n) => some n
    | _ => none
  | none => none
def colI (k : Int) : List D → Option (List Int)
  | [] => some []
  | d :: ds => match colD k d, colI k ds with
    | some n, some ns => some (n :: ns)
    | _, _ => none
theorem colI_len {k : Int} : ∀ {l : List D} {ns : List Int}, colI k l = some ns → ns.length = l.length
  | [], ns, h => by cases h; rfl
  | d :: ds, ns, h => by
    unfold colI at h
    split at h
    · rename_i n ms e1 e2
      cases h
      simp [colI_len e2]
    · cases h
theorem colI_get {k : Int} : ∀ {l : List D} {ns : List Int} {i : Nat} {d : D}, colI k l = some ns → l[i]? = some d → ∃ n, ns[i]? = some n ∧ colD k d = some n
  | [], ns, i, d, h, e => by simp at e
  | d0 :: ds, ns, i, d, h, e => by
    unfold colI at h
    split at h
    · rename_i n ms e1 e2
      cases h
      cases i with
      | zero => simp at e; subst e; exact ⟨n, rfl, e1⟩
      | succ i => obtain ⟨m, q1, q2⟩ := colI_get (i := i) e2 (by simpa using e); exact ⟨m, by simpa using q1, q2⟩
    · cases h
section
variable {c : Cc} {O O' : Ow} {H H' : Hp} {ρ ρ' : En} {τ τ' : List (V × R)} {σ σ' : St} {v : V} {ℓ ℓ' : Lab} {ct : Ct} {X : Cx} {ek : EK} {fl : Bool}
variable {a b e : Expr} {rest : List Expr} {Ta Tb Tc Td Te Tk : TEp} {TA' TB' TT' : TTp} {pos pos' : Pos} {T U : TSp} {TA TB : TAp} {es : List Expr}
def wiAny (K : PySem.W.Frag) (te : TE) : TI := fun σ H R => te σ H fun v H1 => ∃ (a : Addr) (xs : List V), v = .ref a ∧ ((SqL K H1 a xs ∧ R (Itl K a) H1) ∨ (SqT K H1 a xs ∧ R (Itt K a) H1))
theorem pi_any {tg : Expr} {te : TE} (he : PE X e te) : PI X tg e (wiAny X.K te) := by
  refine ⟨fun pins s σ H R I h => ?_⟩
  refine thn (he.run pins s σ H _ I h) fun v s1 ⟨x, H1, I1, rv, p, xs, ex, q⟩ => ?_
  subst ex
  cases rv
  rcases q with ⟨hq, q⟩ | ⟨hq, q⟩
  · exact it_lst I1 hq q
  · exact it_tup I1 hq q
def tSrt (k : Int) (Te : TEp) : TEp := fun ρ R E => Te ρ (fun r ρ1 => oD (fzC ρ1 r) fun p => oD (seqD p.1) fun l => oD (colI k l) fun ns => ns.length < 64 ∧ R (.va (Wl ((srtU ns).map .int))) p.2) E
theorem seq_rp {K : PySem.W.Frag} {A : Av} {d : D} {l : List D} (h : Rp K H A d v) (e : seqD d = some l) : ∃ a vs, v = .ref a ∧ (SqL K H a vs ∨ SqT K H a vs) ∧ Rps K H A l vs := by
  cases d <;> cases e
  · obtain ⟨a, vs, rfl, q, r⟩ := h.top.tup; exact ⟨a, vs, rfl, .inr q, r⟩
  · obtain ⟨a, vs, rfl, q, r⟩ := h.top.lst; exact ⟨a, vs, rfl, .inl (SqL.of q), r⟩
theorem col_rp {K : PySem.W.Frag} {A : Av} {d : D} {k n : Int} (h : Rp K H A d v) (e : colD k d = some n) : rIxL K v (.int k) H (fun w H' => w = .int n ∧ H' = H) ∨ rIxT K v (.int k) H (fun w H' => w = .int n ∧ H' = H) := by
  unfold colD at e
  split at e
  · rename_i l e1
    split at e
    · rename_i m e2
      cases e
      obtain ⟨a, vs, rfl, q, r⟩ := seq_rp h e1
      obtain ⟨w, e3, r3⟩ := atI_rps r e2
      rcases q with q | q
      · exact .inl ⟨a, vs, k, w, rfl, rfl, q, e3, r3.int, rfl⟩
      · exact .inr ⟨a, vs, k, w, rfl, rfl, q, e3, r3.int, rfl⟩
    · cases e
  · cases e
section
variable {x : Str} {p sp xp xp' kp spos : Pos} {k : Int} {j jx : Nat} {scope : Scope}
theorem p_srt (jx : Nat) (hm : X.mg "sorted" = none) (hc : X.calm = true) (hN : X.N.Nodup) (he : PEp c ek fl X e Te) (ok : BlkOk X.N X.env.scope scope [(x, jx)]) (hown : c.nb ≤ jx) (hlk : jx ∉ c.lock)
    (hv : ∀ (s : Shared) (H : Hp) (C : Addr) (cl : List (Str × Addr)) (fp : List Addr), PE (X.blk s H scope (compEnvC scope cl C X.env) fp) (.Subscript (.Name x xp) (.Constant (.int k) j kp) sp) (tOp (fun y z H Q => rIxL X.K y z H Q ∨ rIxT X.K y z H Q) (fun σ H Q => ∃ v, σ[jx]? = some (some v) ∧ Q v H) (tC (.int k))))
    (hg' : ∀ (s : Shared) (H : Hp) (C : Addr) (cl : List (Str × Addr)) (fp : List Addr), PG (X.blk s H scope (compEnvC scope cl C X.env) fp) (.Name x xp') (gName jx))
    (hs : ∀ x, foldedSetIterable e X.env x = pure x := by intro _; rfl) (hg : Gl X "sorted" := by rfl) (hst : starEach [.SetComp (.Subscript (.Name x xp) (.Constant (.int k) j kp) sp) [⟨.Name x xp', e, [], 0⟩] scope spos] X.env = (false, eval (.SetComp (.Subscript (.Name x xp) (.Constant (.int k) j kp) sp) [⟨.Name x xp', e, [], 0⟩] scope spos) X.env) :: starEach [] X.env := by rfl)
    (hpl : (backTo pos (starEach [] X.env)).any (·.1) = false := by rfl) (hK : X.K = c.K := by rfl) :
    PEp c ek fl X (.Call (.Name "sorted" p) [.SetComp (.Subscript (.Name x xp) (.Constant (.int k) j kp) sp) [⟨.Name x xp', e, [], 0⟩] scope spos] [] pos) (tSrt k Te) := by
  refine ⟨fun pins s σ H Q I h => ?_⟩
  obtain ⟨ρ, τ, R0, E0, S, hT, hQ, hE⟩ := h
  refine (pe_callB (cr_sortedSet hc) hg hm (by decide +kernel) (pa_cons (pe_sci (own := [(x, jx)]) hc hN (pi_any he) ok hg' (fun _ _ _ _ _ => pts_nil) hv hs) pa_nil hst) (by decide) (by decide) hst hpl).run pins s σ H Q I ?_
  refine ⟨ρ, τ, _, _, S, hT, fun r ρ1 v H1 h1 S1 => ?_, hE⟩
  obtain ⟨pr, e1, h1⟩ := h1.of
  obtain ⟨l, e2, h1⟩ := h1.of
  obtain ⟨ns, e3, h64, h1⟩ := h1.of
  obtain ⟨d0, ρ2⟩ := pr
  obtain ⟨O, S1⟩ := S1
  obtain ⟨O2, S2, rp, _⟩ := fzC_ok S1 e1
  obtain ⟨a0, vs, rfl, hq, rr⟩ := seq_rp rp e2
  have hlen := colI_len e3
  have hvl := rr.length
  -- the loop
  have core : ∀ J : It, (J = Itl X.K a0 ∧ SqL X.K H1 a0 vs) ∨ (J = Itt X.K a0 ∧ SqT X.K H1 a0 vs) → ∀ L, H1 L = none → ∃ W : Nat → Nat → Hp → Prop, (∃ m, W 0 m (upd H1 L (SetO X.w L (fun _ => false) 0))) ∧ ∀ i m H, W i m H → (J.stop i H ∧ (fun vs' H2 => rSortedSet X.w [vs'] H2 Q) (.ref L) H) ∨ (J.go i H ∧
      ∃ Nx : Hp → Prop, (∀ H', Nx H' → ∃ m', m' < m ∧ W (i + 1) m' H') ∧ ∀ x H', J.yld i H x H' → gName jx x (wipe σ [jx]) H' fun σ2 H2 => wipe σ2 [jx] = wipe σ [jx] ∧ tYes σ2 H2 fun b H3 => ScTurn X.w L (tOp (fun y z H Q => rIxL X.K y z H Q ∨ rIxT X.K y z H Q) (fun σ H Q => ∃ v, σ[jx]? = some (some v) ∧ Q v H) (tC (.int k))) Nx b σ2 H3) := by
    intro J hJ L hL
    have step : ∀ o, Ext c (fun _ _ => False) O2 (O2.set L none) H1 (upd H1 L o) := fun o => Ext.new (o := o) (m := none) S2 hL
    have sL : ∀ o, SqL X.K H1 a0 vs → SqL X.K (upd H1 L o) a0 vs := fun o z => by
      rcases z with (z | ⟨u, z⟩) | z
      · exact .inl (.inl (by rw [upd_ne (ne_of_none z hL)]; exact z))
      · exact .inl (.inr ⟨u, by rw [upd_ne (ne_of_none z hL)]; exact z⟩)
      · exact .inr z
    have sT : ∀ o, SqT X.K H1 a0 vs → SqT X.K (upd H1 L o) a0 vs := fun o z => by rw [hK] at z ⊢; exact (step o).hT _ _ z
    refine ⟨fun i m H => m = vs.length - i ∧ i ≤ vs.length ∧ ∃ n, n ≤ i ∧ H = upd H1 L (SetO X.w L (fun z => decide (z ∈ ns.take i)) n), ⟨vs.length, by simp, Nat.zero_le _, 0, Nat.le_refl _, by simp⟩, ?_⟩
    rintro i m H ⟨rfl, hi, n, hn, rfl⟩
    by_cases hlt : i < vs.length
    · right
      have hd : l[i]? = some l[i] := List.getElem?_eq_getElem (by omega)
      obtain ⟨z, hz, hcol⟩ := colI_get e3 hd
      obtain ⟨w, hw, rw'⟩ := rr.get hd
      have rw2 := (step (SetO X.w L (fun z => decide (z ∈ ns.take i)) n)).rp rw'
      have hz2 : i < ns.length := by omega
      have tk : ns.take (i + 1) = ns.take i ++ [z] := by rw [List.take_add_one, hz]; rfl
      have body : ∀ σ2 : St, σ2[jx]? = some (some w) → ScTurn X.w L (tOp (fun y z H Q => rIxL X.K y z H Q ∨ rIxT X.K y z H Q) (fun σ H Q => ∃ v, σ[jx]? = some (some v) ∧ Q v H) (tC (.int k))) (fun H => i + 1 ≤ vs.length ∧ ∃ n, n ≤ i + 1 ∧ H = upd H1 L (SetO X.w L (fun z => decide (z ∈ ns.take (i + 1))) n)) true σ2 (upd H1 L (SetO X.w L (fun z => decide (z ∈ ns.take i)) n)) := fun σ2 h2 => by
        unfold ScTurn
        rw [if_pos rfl]
        refine ⟨w, h2, ?_⟩
        have fin : (fun (w : V) (H' : Hp) => w = .int z ∧ H' = upd H1 L (SetO X.w L (fun z => decide (z ∈ ns.take i)) n)) = fun (w : V) (H' : Hp) => w = .int z ∧ H' = upd H1 L (SetO X.w L (fun z => decide (z ∈ ns.take i)) n) := rfl
        have go : ∀ (w' : V) (H' : Hp), (w' = .int z ∧ H' = upd H1 L (SetO X.w L (fun z => decide (z ∈ ns.take i)) n)) → ∃ (k : Int) (S : Int → Bool) (m : Nat), w' = .int k ∧ H' L = some (SetO X.w L S m) ∧ m + 1 < scanBound ∧ (i + 1 ≤ vs.length ∧ ∃ n, n ≤ i + 1 ∧ (upd H' L (SetO X.w L (fun j => S j || decide (j = k)) (if S k = true then m else m + 1))) = upd H1 L (SetO X.w L (fun z => decide (z ∈ ns.take (i + 1))) n)) := by
          rintro w' H' ⟨rfl, rfl⟩
          refine ⟨z, _, n, rfl, upd_same, by unfold scanBound; omega, by omega, (if decide (z ∈ ns.take i) = true then n else n + 1), by split <;> omega, ?_⟩
          rw [upd_upd]
          congr 1
          congr 1
          funext y
          rw [tk]
          by_cases h1 : y ∈ ns.take i <;> by_cases h2 : y = z <;> simp [h1, h2]
        rcases col_rp rw2 hcol with q | q
        · obtain ⟨p1, xs1, i1, v1, a1, a2, a3, a4, a5⟩ := q
          exact .inl ⟨p1, xs1, i1, v1, a1, a2, by rw [hK]; exact a3, a4, go _ _ a5⟩
        · obtain ⟨p1, xs1, i1, v1, a1, a2, a3, a4, a5⟩ := q
          exact .inr ⟨p1, xs1, i1, v1, a1, a2, by rw [hK]; exact a3, a4, go _ _ a5⟩
      have hset : ∀ (u : V), ((wipe σ [jx]).set jx (some u)).length = (wipe σ [jx]).length := fun u => by simp
      have hj : jx < (wipe σ [jx]).length := by
        rw [wipe_length]
        have h1 := I.len
        have h2 := ok.ix (x, jx) (by simp)
        have h3 : jx < X.N.length := (List.getElem?_eq_some_iff.mp h2).1
        omega
      have wip : ∀ u : V, wipe ((wipe σ [jx]).set jx (some u)) [jx] = wipe σ [jx] := fun u => by
        apply List.ext_getElem?
        intro q
        by_cases hq : q = jx
        · subst hq
          rw [wipe_inS (by simp) (by rw [hset]; exact hj), wipe_inS (by simp) (by rw [wipe_length] at hj; exact hj)]
        · rw [wipe_outS (by simpa using hq), List.getElem?_set_ne (Ne.symm hq)]
      rcases hJ with ⟨rfl, hq'⟩ | ⟨rfl, hq'⟩
      · refine ⟨⟨vs, w, sL _ hq', hw⟩, (fun H => i + 1 ≤ vs.length ∧ ∃ n, n ≤ i + 1 ∧ H = upd H1 L (SetO X.w L (fun z => decide (z ∈ ns.take (i + 1))) n)), fun H' hq2 => ⟨vs.length - (i + 1), by omega, rfl, hq2.1, hq2.2⟩, fun x H' y => ?_⟩
        obtain ⟨e4, y⟩ := y
        subst e4
        have := y vs (sL _ hq')
        rw [hw] at this
        cases this
        exact ⟨wip _, body _ (by rw [List.getElem?_set_self hj])⟩
      · refine ⟨⟨vs, w, sT _ hq', hw⟩, (fun H => i + 1 ≤ vs.length ∧ ∃ n, n ≤ i + 1 ∧ H = upd H1 L (SetO X.w L (fun z => decide (z ∈ ns.take (i + 1))) n)), fun H' hq2 => ⟨vs.length - (i + 1), by omega, rfl, hq2.1, hq2.2⟩, fun x H' y => ?_⟩
        obtain ⟨e4, y⟩ := y
        subst e4
        have := y vs (sT _ hq')
        rw [hw] at this
        cases this
        exact ⟨wip _, body _ (by rw [List.getElem?_set_self hj])⟩
    · left
      have ei : i = vs.length := by omega
      subst ei
      refine ⟨?_, L, _, n, rfl, upd_same, by omega, fun out q hs' hmem hl' hq' => ?_⟩
      · rcases hJ with ⟨rfl, hq'⟩ | ⟨rfl, hq'⟩
        · exact ⟨vs, sL _ hq', Nat.le_refl _⟩
        · exact ⟨vs, sT _ hq', Nat.le_refl _⟩
      · have eo : out = srtU ns := asc_eq hs' srtU_ord fun z => by
          rw [hmem z, srtU_mem, decide_eq_true_eq, List.take_of_length_le (by omega)]
        subst eo
        have S3 := S2.new (o := SetO X.w L (fun z => decide (z ∈ ns.take vs.length)) n) (m := none) hL (fun z => absurd rfl z)
        exact hQ _ _ _ _ h1 (S3.newLst hq' (rps_ints _))
  rw [← hK] at hq
  rcases hq with hq | hq
  · exact ⟨a0, vs, rfl, .inl ⟨hq, core _ (.inl ⟨rfl, hq⟩)⟩⟩
  · exact ⟨a0, vs, rfl, .inr ⟨hq, core _ (.inr ⟨rfl, hq⟩)⟩⟩
end
/-! ### reversed -/
def iRev (Te : TEp) : TIp' := fun ρ R E => Te ρ (fun r ρ' => oD (fzC ρ' r) fun p => oD (seqD p.1) fun l => R l.reverse p.2) E
theorem rev_at {l : List D} {vs : List V} {K : PySem.W.Frag} {A : Av} {i : Nat} {d : D} (r : Rps K H A l vs) (h : l.reverse[i]? = some d) : i < l.length ∧ ∃ w, vs[l.length - 1 - i]? = some w ∧ Rp K H A d w := by
  have hi : i < l.length := by have := (List.getElem?_eq_some_iff.mp h).1; simpa using this
  rw [List.getElem?_reverse hi] at h
  exact ⟨hi, r.get h⟩
theorem revL_it {p : Addr} {l : List D} (hK : X.K = c.K) : ItOk c (Itv X.K p l.length) l.reverse [(.ref p, .va (Fz (.lst l)))] := by
  intro σ H ρ τ0 τ i S
  obtain ⟨O, S⟩ := S
  have rp : Rp c.K H (c.av O) (.lst l) (.ref p) := S.tm.app.1
  obtain ⟨a', vs, e, ha, rr⟩ := rp.top.lst
  cases e
  refine ⟨fun d hd => ?_, fun hl => by show l.length ≤ i; simpa using hl⟩
  obtain ⟨hi, w, hw, rw'⟩ := rev_at rr hd
  refine ⟨⟨hi, vs, w, SqL.of ha, hw⟩, fun x H' y => ?_⟩
  obtain ⟨e1, y⟩ := y
  subst e1
  have := y vs (SqL.of ha)
  rw [hw] at this
  cases this
  exact ⟨O, S, rw'⟩
theorem revT_it {p : Addr} {l : List D} (hK : X.K = c.K) : ItOk c (RT.ItvT X.K p l.length) l.reverse [(.ref p, .va (Fz (.tup l)))] := by
  intro σ H ρ τ0 τ i S
  obtain ⟨O, S⟩ := S
  have rp : Rp c.K H (c.av O) (.tup l) (.ref p) := S.tm.app.1
  obtain ⟨a', vs, e, ha, rr⟩ := rp.top.tup
  cases e
  rw [← hK] at ha
  refine ⟨fun d hd => ?_, fun hl => by show l.length ≤ i; simpa using hl⟩
  obtain ⟨hi, w, hw, rw'⟩ := rev_at rr hd
  refine ⟨⟨hi, vs, w, ha, hw⟩, fun x H' y => ?_⟩
  obtain ⟨e1, y⟩ := y
  subst e1
  have := y vs ha
  rw [hw] at this
  cases this
  exact ⟨O, S, rw'⟩
theorem i_rev {tg : Expr} {p : Pos} (hm : X.mg "reversed" = none) (he : PEp c ek fl X e Te) (hK : X.K = c.K := by rfl) (hg : Gl X "reversed" := by rfl) (hs : starEach [e] X.env = (false, eval e X.env) :: starEach [] X.env := by rfl) : PIp' c ek fl X tg (.Call (.Name "reversed" p) [e] [] pos) (iRev Te) := by
  refine ⟨fun pins s σ H Q I h => ?_⟩
  obtain ⟨ρ, τ, R0, E0, S, hT, q, q5⟩ := h
  refine (RT.pi_revA hg hm he hs).run pins s σ H Q I ⟨ρ, τ, _, _, S, hT, fun r ρ' v H' h1 S1 => ?_, q5⟩
  obtain ⟨pr, e1, h1⟩ := h1.of
  obtain ⟨l, e2, h1⟩ := h1.of
  obtain ⟨d0, ρ2⟩ := pr
  obtain ⟨O, S1⟩ := S1
  obtain ⟨O2, S2, rp, _⟩ := fzC_ok S1 e1
  have nal : ∀ d a, NoAl [((V.ref a), R.va (Fz d))] := fun d a v r m => by rcases List.mem_cons.mp m with e | m; cases e; exact ⟨_, rfl⟩; cases m
  cases d0 <;> cases e2
  · obtain ⟨a, vs, rfl, ha, rr⟩ := rp.top.tup
    exact ⟨a, vs, rfl, .inr ⟨by rw [hK]; exact ha, by rw [rr.length]; exact q _ _ _ _ _ h1 (revT_it hK) (nal _ _) ⟨O2, S2.push rp⟩⟩⟩
  · obtain ⟨a, vs, rfl, ha, rr⟩ := rp.top.lst
    exact ⟨a, vs, rfl, .inl ⟨SqL.of ha, by rw [rr.length]; exact q _ _ _ _ _ h1 (revL_it hK) (nal _ _) ⟨O2, S2.push rp⟩⟩⟩
end
end Pm

namespace Pm
open PySem PySem.Spec PyProof.Rows L2
section
variable {ρ : En} {Rr : R → En → Prop} {Ee : Exn → En → Prop} {E : Ep} {i j : Nat} {nm f g m : Str} {d : D} {l : List D} {fs : List (Str × FC)} {ct : Ct} {fc : FC} {Te Td Tk Ta To : TEp} {TA : TAp} {φ : Fn} {ms : List Bool} {dcs : List D} {kvs : List (Key × D)} {key : Key}
/-! ### equations for classes, dicts, .. -/
def fdL (i : Nat) (f : Str) (ρ : En) (Rr : R → En → Prop) : Option FC → Prop
  | some (.fz d) => Rr (.va (Fz d)) ρ
  | some _ => Rr (.alf i f) ρ
  | none => False
def fdK (nm : Str) (i : Nat) (f : Str) (ρ : En) (Rr : R → En → Prop) : Option Ct → Prop
  | some (.ob nm' fs) => nm' = nm ∧ fdL i f ρ Rr (fs.lookup f)
  | _ => False
theorem e_fd : tFd nm i f ρ Rr Ee = fdK nm i f ρ Rr ρ[i]? := by
  unfold tFd
  cases ρ[i]? with
  | none => rfl
  | some ct =>
    cases ct with
    | ob nm' fs =>
      show (nm' = nm ∧ _) = (nm' = nm ∧ fdL i f ρ Rr (fs.lookup f))
      generalize fs.lookup f = o
      cases o with
      | none => rfl
      | some x => cases x <;> rfl
    | _ => rfl
theorem fd_ob : fdK nm i f ρ Rr (some (.ob nm fs)) = fdL i f ρ Rr (fs.lookup f) := by unfold fdK; simp
theorem fd_fz : fdL i f ρ Rr (some (.fz d)) = Rr (.va (Fz d)) ρ := rfl
theorem fd_ow : fdL i f ρ Rr (some (.ow l)) = Rr (.alf i f) ρ := rfl
theorem fd_dk : fdL i f ρ Rr (some (.dk kvs)) = Rr (.alf i f) ρ := rfl
def lkS {α : Type} (f : Str) : List (Str × α) → Option α := fun fs => fs.lookup f
theorem lk_hit {α : Type} {x : α} {r : List (Str × α)} : List.lookup f ((f, x) :: r) = some x := by rw [List.lookup_cons, beq_self_eq_true]
theorem lk_miss {α : Type} {x : α} {r : List (Str × α)} (h : (f == g) = false) : List.lookup f ((g, x) :: r) = List.lookup f r := by rw [List.lookup_cons, h]
theorem lk_nil {α : Type} : List.lookup f ([] : List (Str × α)) = none := rfl
theorem pt_hit {α : Type} {x y : α} {r : List (Str × α)} : putA f y ((f, x) :: r) = (f, y) :: r := by unfold putA; rw [if_pos rfl]
theorem pt_miss {α : Type} {x y : α} {r : List (Str × α)} (h : (f == g) = false) : putA f y ((g, x) :: r) = (g, x) :: putA f y r := by
  have : ¬ f = g := by simpa using h
  show (if f = g then _ else _) = _
  rw [if_neg this]
theorem pt_nil {α : Type} {y : α} : putA f y [] = [(f, y)] := rfl
theorem nA_alf {k : Prop} : nA (.alf i f) k = False := rfl
-- views of a field
theorem fcD_U (o : Option FC) : (o.map fcU).bind fcD = o.bind fcD := by
  cases o with
  | none => rfl
  | some f => cases f <;> rfl
def afV (f : Str) : Option Ct → Option D
  | some (.ob _ fs) => (fs.lookup f).bind fcD
  | some (.ds fs) => (fs.lookup f).bind fcD
  | _ => none
theorem vw_alf : vw ρ (.alf i f) = afV f ρ[i]? := by
  unfold vw
  show (match ρ[i]? with | some (.ob _ fs) => (fs.lookup f).map fcU | some (.ds fs) => (fs.lookup f).map fcU | _ => none : Option FC).bind fcD = _
  cases ρ[i]? with
  | none => rfl
  | some ct => cases ct <;> first | rfl | exact fcD_U _
theorem af_ds : afV f (some (.ds fs)) = (fs.lookup f).bind fcD := rfl
theorem fcD_tow {p : Addr} : fcD (.tow p l) = some (.lst l) := rfl
theorem fcU_fz : fcU (.fz d) = .fz d := rfl
theorem fcU_ow : fcU (.ow l) = .ow l := rfl
theorem fcU_dk : fcU (.dk kvs) = .dk kvs := rfl
theorem fcU_tow {p : Addr} : fcU (.tow p l) = .ow l := rfl
theorem fcU_tdk {p : Addr} : fcU (.tdk p kvs) = .dk kvs := rfl
theorem fcR_fz : fcR (some (.fz d)) fc = fc := rfl
theorem fcR_ow : fcR (some (.ow l)) fc = fc := rfl
theorem fcR_dk : fcR (some (.dk kvs)) fc = fc := rfl
theorem fcR_tow {p : Addr} {l' : List D} : fcR (some (.tow p l)) (.ow l') = .tow p l' := rfl
theorem fcR_tdk {p : Addr} {kvs' : List (Key × D)} : fcR (some (.tdk p kvs)) (.dk kvs') = .tdk p kvs' := rfl
theorem af_ob : afV f (some (.ob nm fs)) = (fs.lookup f).bind fcD := rfl
theorem fcD_fz : fcD (.fz d) = some d := rfl
theorem fcD_ow : fcD (.ow l) = some (.lst l) := rfl
theorem fcD_dk : fcD (.dk kvs) = none := rfl
def afF (f : Str) : Option Ct → Option FC
  | some (.ob _ fs) => (fs.lookup f).map fcU
  | some (.ds fs) => (fs.lookup f).map fcU
  | _ => none
def alF : Option Ct → Option FC
  | some (.at fc) => some fc
  | _ => none
theorem cf_alf : ctF ρ (.alf i f) = afF f ρ[i]? := by
  show (match ρ[i]? with | some (.ob _ fs) => (fs.lookup f).map fcU | some (.ds fs) => (fs.lookup f).map fcU | _ => none : Option FC) = _
  cases ρ[i]? with
  | none => rfl
  | some ct => cases ct <;> rfl
theorem cf_al : ctF ρ (.al i) = alF ρ[i]? := by
  show (match ρ[i]? with | some (.at f) => some f | _ => none : Option FC) = _
  cases ρ[i]? with
  | none => rfl
  | some ct => cases ct <;> rfl
theorem cf_va : ctF ρ (.va (.at fc)) = some fc := rfl
theorem afF_ob : afF f (some (.ob nm fs)) = (fs.lookup f).map fcU := rfl
theorem afF_ds : afF f (some (.ds fs)) = (fs.lookup f).map fcU := rfl
theorem alF_at : alF (some (.at fc)) = some fc := rfl
-- freezing a field
def afZ2 (i : Nat) (nm f : Str) (fs : List (Str × FC)) (ρ : En) : Option FC → Option (D × En)
  | some (.fz d) => some (d, ρ)
  | some (.ow l) => some (.lst l, ρ.set i (.ob nm (putA f (.fz (.lst l)) fs)))
  | _ => none
def afZ (i : Nat) (f : Str) (ρ : En) : Option Ct → Option (D × En)
  | some (.ob nm fs) => afZ2 i nm f fs ρ (fs.lookup f)
  | _ => none
theorem fzC_alf : fzC ρ (.alf i f) = afZ i f ρ ρ[i]? := by
  show (match ρ[i]? with
    | some (.ob nm fs) => match fs.lookup f with
      | some (.fz d) => some (d, ρ)
      | some (.ow l) => some (.lst l, ρ.set i (.ob nm (putA f (.fz (.lst l)) fs)))
      | _ => none
    | _ => none) = _
  cases ρ[i]? with
  | none => rfl
  | some ct =>
    cases ct with
    | ob nm fs =>
      show _ = afZ2 i nm f fs ρ (fs.lookup f)
      dsimp only
      cases fs.lookup f with
      | none => rfl
      | some x => cases x <;> rfl
    | _ => rfl
theorem afZ_ob : afZ i f ρ (some (.ob nm fs)) = afZ2 i nm f fs ρ (fs.lookup f) := rfl
theorem afZ_fz : afZ2 i nm f fs ρ (some (.fz d)) = some (d, ρ) := rfl
theorem afZ_ow : afZ2 i nm f fs ρ (some (.ow l)) = some (.lst l, ρ.set i (.ob nm (putA f (.fz (.lst l)) fs))) := rfl
theorem stC_alf {k : Ct → En → Prop} : stC ρ (.alf i f) k = oD (fzC ρ (.alf i f)) fun p => k (Fz p.1) p.2 := by
  show (match fzC ρ (.alf i f) with | some (d, ρ') => k (Fz d) ρ' | none => False) = _
  cases fzC ρ (.alf i f) <;> rfl
-- stores
def sfdK (nm : Str) (i : Nat) (f : Str) (ρ : En) (E : Ep) : Ct → Option Ct → Prop
  | .at fc, some (.ob nm' fs) => nm' = nm ∧ fs.length < 1000 ∧ E.nx (ρ.set i (.ob nm (putA f fc fs)))
  | _, _ => False
theorem e_sFd : sFd nm i f Te ρ E = Te ρ (fun r ρ' => stC ρ' r fun ct ρ'' => sfdK nm i f ρ'' E ct ρ''[i]?) E.ex := by
  unfold sFd sfdK
  rfl
theorem sfd_at : sfdK nm i f ρ E (.at fc) (some (.ob nm fs)) = (fs.length < 1000 ∧ E.nx (ρ.set i (.ob nm (putA f fc fs)))) := by unfold sfdK; simp
-- methods
def meK (nm : Str) (i : Nat) (m : Str) (φ : Fn) (ms : List Bool) (dcs : List D) (TA : TAp) (ρ : En) (Rr : R → En → Prop) (Ee : Exn → En → Prop) : Option Ct → Prop
  | some (.ob nm' fs) => nm' = nm ∧ fs.lookup m = none ∧ TA ρ (fun rs ρ1 => callK φ (true :: ms) dcs (.al i :: rs) ρ1 Rr Ee) Ee
  | _ => False
theorem e_me : tMe nm i m φ ms dcs TA ρ Rr Ee = meK nm i m φ ms dcs TA ρ Rr Ee ρ[i]? := by
  unfold tMe meK
  cases ρ[i]? with
  | none => rfl
  | some ct => cases ct <;> rfl
def oN {α : Type} : Option α → Prop → Prop
  | none, p => p
  | some _, _ => False
theorem oN_none {α : Type} {p : Prop} : oN (none : Option α) p = p := rfl
theorem me_ob : meK nm i m φ ms dcs TA ρ Rr Ee (some (.ob nm fs)) = oN (fs.lookup m) (TA ρ (fun rs ρ1 => callK φ (true :: ms) dcs (.al i :: rs) ρ1 Rr Ee) Ee) := by
  show (nm = nm ∧ fs.lookup m = none ∧ _) = _
  cases fs.lookup m with
  | none => simp [oN]
  | some x => simp [oN]
theorem isOw_ob : isOw (.ob nm fs) = true := rfl
theorem e_mk {k : Nat} : tMk nm k φ dcs TA ρ Rr Ee = TA ρ (fun rs ρ1 => rs.length = k ∧ fzK ρ1 rs fun ds ρ2 => φ (.ob nm [] :: (ds.map Fz ++ dcs.map Fz)) (fun r cs' => r = Fz .non ∧ Rr (.va (cs'.headD .no)) ρ2) (fun _ _ => False)) Ee := rfl
theorem hd_cons {cs : List Ct} : (ct :: cs).headD .no = ct := rfl
-- list methods on a field
def muR1 (f : MuF) (r : R) (TA : TAp) (ρ : En) (Rr : R → En → Prop) (Ee : Exn → En → Prop) : Option FC → Prop
  | some (.ow _) => TA ρ (fun rs ρ2 => fzK ρ2 rs fun ds ρ3 => match ctF ρ3 r with
    | some (.ow l) => f l ds fun res l' => Rr (.va (Fz res)) (setR ρ3 r (.ow l'))
    | _ => False) Ee
  | _ => False
def muR2 (f : MuF) (r : R) (ds : List D) (ρ : En) (Rr : R → En → Prop) : Option FC → Prop
  | some (.ow l) => f l ds fun res l' => Rr (.va (Fz res)) (setR ρ r (.ow l'))
  | _ => False
theorem e_muR {f : MuF} : tMuR f To TA ρ Rr Ee = To ρ (fun r ρ1 => isPl r = true ∧ muR1 f r TA ρ1 Rr Ee (ctF ρ1 r)) Ee := by
  rfl
theorem muR1_ow {f : MuF} {r : R} : muR1 f r TA ρ Rr Ee (some (.ow l)) = TA ρ (fun rs ρ2 => fzK ρ2 rs fun ds ρ3 => muR2 f r ds ρ3 Rr (ctF ρ3 r)) Ee := rfl
theorem muR2_ow {f : MuF} {r : R} {ds : List D} : muR2 f r ds ρ Rr (some (.ow l)) = f l ds fun res l' => Rr (.va (Fz res)) (setR ρ r (.ow l')) := rfl
theorem isPl_al : (isPl (.al i) = true) = True := eq_true rfl
theorem isPl_alf : (isPl (.alf i f) = true) = True := eq_true rfl
theorem setR_al : setR ρ (.al i) fc = ρ.set i (.at fc) := rfl
def setRf (i : Nat) (f : Str) (fc : FC) (ρ : En) : Option Ct → En
  | some (.ob nm fs) => ρ.set i (.ob nm (putA f (fcR (fs.lookup f) fc) fs))
  | some (.ds fs) => ρ.set i (.ds (putA f (fcR (fs.lookup f) fc) fs))
  | _ => ρ
theorem setR_alf : setR ρ (.alf i f) fc = setRf i f fc ρ ρ[i]? := by
  show (match ρ[i]? with | some (.ob nm fs) => ρ.set i (.ob nm (putA f (fcR (fs.lookup f) fc) fs)) | some (.ds fs) => ρ.set i (.ds (putA f (fcR (fs.lookup f) fc) fs)) | _ => ρ) = _
  cases ρ[i]? with
  | none => rfl
  | some ct => cases ct <;> rfl
theorem setRf_ob : setRf i f fc ρ (some (.ob nm fs)) = ρ.set i (.ob nm (putA f (fcR (fs.lookup f) fc) fs)) := rfl
theorem setRf_ds : setRf i f fc ρ (some (.ds fs)) = ρ.set i (.ds (putA f (fcR (fs.lookup f) fc) fs)) := rfl
-- dicts
theorem e_dn : tDn ρ Rr Ee = Rr (.va (.at (.dk []))) ρ := rfl
def dk2 (k : List (Key × D) → Key → Prop) (kvs : List (Key × D)) : Option Key → Prop
  | some key => k kvs key
  | none => False
def dk1 (o : Option D) (k : List (Key × D) → Key → Prop) : Option FC → Prop
  | some (.dk kvs) => oD o fun d => dk2 k kvs (keyD d)
  | _ => False
theorem e_dkK {r rk : R} {k : List (Key × D) → Key → Prop} : dkK ρ r rk k = dk1 (vw ρ rk) k (ctF ρ r) := by
  unfold dkK dk1
  cases ctF ρ r with
  | none => rfl
  | some fc =>
    cases fc with
    | dk kvs =>
      dsimp only
      unfold wD oD
      cases vw ρ rk with
      | none => rfl
      | some d =>
        dsimp only
        unfold dk2
        cases keyD d <;> rfl
    | _ => rfl
theorem dk1_dk {o : Option D} {k : List (Key × D) → Key → Prop} : dk1 o k (some (.dk kvs)) = oD o fun d => dk2 k kvs (keyD d) := rfl
theorem dk2_k {k : List (Key × D) → Key → Prop} : dk2 k kvs (some key) = k kvs key := rfl
theorem kD_int {n : Int} : keyD (.int n) = some (.inl n) := rfl
theorem kD_str {x : Str} : keyD (.str x) = some (.inr x) := rfl
theorem e_wD {o : Option D} {k : D → Prop} : wD o k = oD o k := by cases o <;> rfl
theorem e_dg : tDg Td Tk ρ Rr Ee = Td ρ (fun r ρ1 => Tk ρ1 (fun rk ρ2 => dkK ρ2 r rk fun kvs key => oD (dkGet kvs key) fun d => Rr (.va (Fz d)) ρ2) Ee) Ee := by
  unfold tDg
  simp only [e_wD]
theorem e_di {neg : Bool} : tDi neg Tk Td ρ Rr Ee = Tk ρ (fun rk ρ1 => nA rk <| Td ρ1 (fun r ρ2 => dkK ρ2 r rk fun kvs key => Rr (.va (Fz (.bl (neg != (dkGet kvs key).isSome)))) ρ2) Ee) Ee := rfl
theorem e_diT {neg : Bool} {Rb : Bool → En → Prop} : tDiT neg Tk Td ρ Rb Ee = Tk ρ (fun rk ρ1 => nA rk <| Td ρ1 (fun r ρ2 => dkK ρ2 r rk fun kvs key => Rb (neg != (dkGet kvs key).isSome) ρ2) Ee) Ee := rfl
theorem e_dp : sDp Td Tk Te ρ E = Te ρ (fun r ρ1 => oD (fzC ρ1 r) fun p => Td p.2 (fun rd ρ3 => isPl rd = true ∧ Tk ρ3 (fun rk ρ4 => dkK ρ4 rd rk fun kvs key => kvs.length < sizeLine ∧ E.nx (setR ρ4 rd (.dk (dkPut kvs key p.1)))) E.ex) E.ex) E.ex := by
  unfold sDp
  congr 1
  funext r ρ1
  cases fzC ρ1 r with
  | none => rfl
  | some p => rfl
theorem e_keyK {r : R} {k : Key → Prop} : keyK ρ r k = oD (vw ρ r) fun d => dk2 (fun _ key => k key) [] (keyD d) := by
  unfold keyK wD oD
  cases vw ρ r with
  | none => rfl
  | some d =>
    dsimp only
    unfold dk2
    cases keyD d <;> rfl
theorem e_dcc {TI : TIp'} {g : Tg} {tt : TTp} {own : List Nat} : tDcc TI g tt Tk Te own ρ Rr Ee = TI ρ (fun ds ρ1 => dcK g tt Tk Te own Ee Rr ds [] (wipeE ρ1 own)) Ee := rfl
theorem dc_nil {g : Tg} {tt : TTp} {own : List Nat} : dcK g tt Tk Te own Ee Rr [] kvs ρ = Rr (.va (.at (.dk kvs))) ρ := rfl
theorem dc_cons {g : Tg} {tt : TTp} {own : List Nat} {ds : List D} : dcK g tt Tk Te own Ee Rr (d :: ds) kvs ρ = oD (tgK g d (wipeE ρ own)) fun ρ2 => tt ρ2 (fun b ρ3 => if b = true then Tk ρ3 (fun rk ρ4 => keyK ρ4 rk fun key => Te ρ4 (fun r ρ5 => oD (fzC ρ5 r) fun p => kvs.length < sizeLine ∧ dcK g tt Tk Te own Ee Rr ds (dkPut kvs key p.1) (wipeE p.2 own)) Ee) Ee else dcK g tt Tk Te own Ee Rr ds kvs (wipeE ρ3 own)) Ee := rfl
theorem e_srt {k : Int} : tSrt k Te ρ Rr Ee = Te ρ (fun r ρ1 => oD (fzC ρ1 r) fun p => oD (seqD p.1) fun l => oD (colI k l) fun ns => ns.length < 64 ∧ Rr (.va (Wl ((srtU ns).map .int))) p.2) Ee := rfl
theorem seqD_l : seqD (.lst l) = some l := rfl
theorem seqD_t : seqD (.tup l) = some l := rfl
theorem e_rev {Rl : List D → En → Prop} : iRev Te ρ Rl Ee = Te ρ (fun r ρ' => oD (fzC ρ' r) fun p => oD (seqD p.1) fun l => Rl l.reverse p.2) Ee := rfl
theorem f_lcm {a b : Int} {Rd : D → Prop} : fLcm (.int a) (.int b) Rd = ((a.natAbs.log2 < 9000 ∧ b.natAbs.log2 < 9000) ∧ Rd (.int ((Nat.lcm a.natAbs b.natAbs : Nat) : Int))) := rfl
end
theorem str_map_inj : ∀ {l m : List Str}, l.map D.str = m.map D.str → l = m
  | [], [], _ => rfl
  | [], _ :: _, h => by cases h
  | _ :: _, [], h => by cases h
  | x :: l, y :: m, h => by
    rw [List.map_cons, List.map_cons] at h
    injection h with h1 h2
    injection h1 with h1
    rw [h1, str_map_inj h2]
theorem c_inT {a : Str} {ss : List Str} {Q : Bool → Prop} : opC .In (.str a) (.tup (ss.map .str)) Q = Q (decide (a ∈ ss)) := by
  show (∃ s2 : List Str, ss.map D.str = s2.map .str ∧ Q (decide (a ∈ s2))) = _
  exact propext ⟨fun ⟨s2, e, h⟩ => by rw [str_map_inj e]; exact h, fun h => ⟨ss, rfl, h⟩⟩
theorem c_ninT {a : Str} {ss : List Str} {Q : Bool → Prop} : opC .NotIn (.str a) (.tup (ss.map .str)) Q = Q (!decide (a ∈ ss)) := by
  show (∃ s2 : List Str, ss.map D.str = s2.map .str ∧ Q (!decide (a ∈ s2))) = _
  exact propext ⟨fun ⟨s2, e, h⟩ => by rw [str_map_inj e]; exact h, fun h => ⟨ss, rfl, h⟩⟩
-- the names of attributes differ
theorem nq_1 : (("rows" : Str) == "free") = false := by decide +kernel
theorem nq_2 : (("load" : Str) == "free") = false := by decide +kernel
theorem nq_3 : (("load" : Str) == "rows") = false := by decide +kernel
theorem nq_4 : (("length" : Str) == "free") = false := by decide +kernel
theorem nq_5 : (("length" : Str) == "rows") = false := by decide +kernel
theorem nq_6 : (("densest" : Str) == "free") = false := by decide +kernel
theorem nq_7 : (("densest" : Str) == "rows") = false := by decide +kernel
end Pm

namespace Pm
open PySem PySem.Spec PyProof.Rows L2
/-! ### sizes -/
def Bs (n : Nat) (i : Int) : Prop := i.natAbs < 2 ^ n
theorem Bs.mono {n m : Nat} {i : Int} (h : Bs n i) (hm : n ≤ m) : Bs m i := Nat.lt_of_lt_of_le h (Nat.pow_le_pow_right (by omega) hm)
theorem Bs.neg {n : Nat} {i : Int} (h : Bs n i) : Bs n (-i) := by unfold Bs at *; rw [Int.natAbs_neg]; exact h
theorem Bs.mul {n m : Nat} {i j : Int} (h : Bs n i) (h' : Bs m j) : Bs (n + m) (i * j) := by
  unfold Bs at *
  rw [Int.natAbs_mul, Nat.pow_add]
  exact Nat.mul_lt_mul'' h h'
theorem Bs.add {n m : Nat} {i j : Int} (h : Bs n i) (h' : Bs m j) : Bs (max n m + 1) (i + j) := by
  unfold Bs at *
  have a := Nat.pow_le_pow_right (show 0 < 2 by omega) (Nat.le_max_left n m)
  have b := Nat.pow_le_pow_right (show 0 < 2 by omega) (Nat.le_max_right n m)
  rw [Nat.pow_succ]
  have := Int.natAbs_add_le i j
  omega
theorem Bs.sub {n m : Nat} {i j : Int} (h : Bs n i) (h' : Bs m j) : Bs (max n m + 1) (i - j) := by
  rw [Int.sub_eq_add_neg]; exact h.add h'.neg
theorem Bs.log {n : Nat} {i : Int} (h : Bs n i) : i.natAbs.log2 < n ∨ i = 0 := by
  by_cases h0 : i = 0
  · exact .inr h0
  · exact .inl ((Nat.log2_lt (by omega)).mpr h)
theorem Bs.div {n : Nat} {i : Int} (h : Bs n i) (h0 : i ≠ 0) (hn : n ≤ 9000) : DivOk i := ⟨h0, by
  rcases h.log with z | z
  · omega
  · exact absurd z h0⟩
theorem Bs.mulOk {n m : Nat} {i j : Int} (h : Bs n i) (h' : Bs m j) (hn : n + m < 1000000) : MulOk i j := by
  unfold MulOk
  have a : i.natAbs.log2 ≤ n := by
    rcases h.log with z | z
    · omega
    · subst z; simp
  have b : j.natAbs.log2 ≤ m := by
    rcases h'.log with z | z
    · omega
    · subst z; simp
  omega
theorem Bs.le {n : Nat} {i j : Int} (h : Bs n j) (hi : i.natAbs ≤ j.natAbs) : Bs n i := Nat.lt_of_le_of_lt hi h
theorem Bs.of {n : Nat} {i : Int} {k : Nat} (h1 : i.natAbs ≤ k) (h2 : k < 2 ^ n) : Bs n i := Nat.lt_of_le_of_lt h1 h2
theorem line_small {n : Nat} (h : n ≤ 16777216) : n ≤ sizeLine := by rw [sizeLine_eq]; exact h
theorem fr1 {n : Nat} {d d2 : D} (lock : List Nat) : ∀ i ct, [Fz d, Fz d2][i]? = some ct → isOw ct = true → i ∈ lock := by
  intro i ct h1 h2
  match i, h1 with
  | 0, h1 => cases h1; cases h2
  | 1, h1 => cases h1; cases h2
/-- no content is owned: any list of them -/
theorem noOw {cs : List Ct} (lock : List Nat) (h : cs.all (fun c => !isOw c) = true) : ∀ i ct, cs[i]? = some ct → isOw ct = true → i ∈ lock := by
  intro i ct h1 h2
  have := List.all_eq_true.mp h ct (List.mem_of_getElem? h1)
  rw [h2] at this; cases this
/-- only the first is owned -/
theorem ow0 {c0 : Ct} {cs : List Ct} (h : cs.all (fun c => !isOw c) = true) : ∀ i ct, (c0 :: cs)[i]? = some ct → isOw ct = true → i ∈ [0] := by
  intro i ct h1 h2
  cases i with
  | zero => simp
  | succ i =>
    have := List.all_eq_true.mp h ct (List.mem_of_getElem? (by simpa using h1))
    rw [h2] at this; cases this

/-! ### ratios -/
def rat (p : Int × Int) : D := .tup [.int p.1, .int p.2]
def mkR (a b : Int) : Int × Int := if b < 0 then ((-a) / (Nat.gcd a.natAbs b.natAbs : Nat), (-b) / (Nat.gcd a.natAbs b.natAbs : Nat)) else (a / (Nat.gcd a.natAbs b.natAbs : Nat), b / (Nat.gcd a.natAbs b.natAbs : Nat))
theorem gcd_pos' {a b : Int} (h : b ≠ 0) : 0 < Nat.gcd a.natAbs b.natAbs := Nat.gcd_pos_of_pos_right _ (by omega)
theorem gcd_ok' {n : Nat} {a b : Int} (h : b ≠ 0) (hb : Bs n b) (hn : n ≤ 9000) : DivOk ((Nat.gcd a.natAbs b.natAbs : Nat) : Int) := by
  have hp := gcd_pos' (a := a) h
  refine Bs.div (n := n) ?_ (by omega) hn
  refine hb.le ?_
  have := Nat.le_of_dvd (by omega) (Nat.gcd_dvd_right a.natAbs b.natAbs)
  simpa using this
/-- a rational number as the program holds it -/
def rq (q : Rat) : D := .tup [.int q.num, .int (q.den : Int)]
theorem rat_mkR {a b : Int} (hb : b ≠ 0) : rat (mkR a b) = rq ((a : Rat) / (b : Rat)) := by
  rw [← Rat.divInt_eq_div]
  unfold rat rq
  rw [Rat.num_divInt, Rat.den_divInt, if_neg hb]
  have hg : b.gcd a = Nat.gcd a.natAbs b.natAbs := by unfold Int.gcd; exact Nat.gcd_comm _ _
  rw [hg]
  have hd : ((b.natAbs / Nat.gcd a.natAbs b.natAbs : Nat) : Int) = (b.natAbs : Int) / (Nat.gcd a.natAbs b.natAbs : Nat) := by omega
  rw [hd]
  unfold mkR
  by_cases h : b < 0
  · rw [if_pos h, Int.sign_eq_neg_one_of_neg h]
    have e1 : (-1 : Int) * a = -a := by omega
    have e2 : (b.natAbs : Int) = -b := by omega
    rw [e1, e2]
  · rw [if_neg h, Int.sign_eq_one_of_pos (by omega)]
    have e2 : (b.natAbs : Int) = b := by omega
    rw [Int.one_mul, e2]
def Bq (n : Nat) (q : Rat) : Prop := Bs n q.num ∧ Bs n (q.den : Int)
theorem Bq.mono {n m : Nat} {q : Rat} (h : Bq n q) (hm : n ≤ m) : Bq m q := ⟨h.1.mono hm, h.2.mono hm⟩
theorem den_ne (q : Rat) : (q.den : Int) ≠ 0 := by have := q.den_pos; omega
theorem denR_ne (q : Rat) : ((q.den : Int) : Rat) ≠ 0 := fun h => den_ne q (by exact_mod_cast h)
theorem Bq.div {n : Nat} {a b : Int} (ha : Bs n a) (hb : Bs n b) (h0 : b ≠ 0) : Bq n ((a : Rat) / (b : Rat)) := by
  rw [← Rat.divInt_eq_div]
  refine ⟨ha.le ?_, hb.le ?_⟩
  · rw [Rat.num_divInt]
    have e1 : (b.sign * a).natAbs ≤ a.natAbs := by
      rw [Int.natAbs_mul]
      have : b.sign.natAbs ≤ 1 := by rw [Int.natAbs_sign]; split <;> omega
      calc b.sign.natAbs * a.natAbs ≤ 1 * a.natAbs := Nat.mul_le_mul_right _ this
        _ = a.natAbs := Nat.one_mul _
    refine Nat.le_trans ?_ e1
    exact Int.natAbs_ediv_le_natAbs _ _
  · rw [Rat.den_divInt, if_neg h0]
    simp only [Int.natAbs_natCast]
    exact Nat.div_le_self _ _
theorem Bq.int {n : Nat} {a : Int} (h : Bs n a) (hn : 1 ≤ n) : Bq n (a : Rat) := by
  refine ⟨by rw [Rat.num_intCast]; exact h, by rw [Rat.den_intCast]; exact Bs.of (k := 1) (by decide) (Nat.lt_of_lt_of_le (by decide : 1 < 2 ^ 1) (Nat.pow_le_pow_right (by omega) hn))⟩
theorem num_eq (q : Rat) : ((q.num : Int) : Rat) = q * ((q.den : Int) : Rat) := by
  have h := Rat.num_divInt_den q
  rw [Rat.divInt_eq_div] at h
  have hd := denR_ne q
  grind
/-! evaluation of ratios -/
theorem ix_rq0 {q : Rat} {Q : D → Prop} : ixD (rq q) (.int 0) Q = Q (.int q.num) := rfl
theorem ix_rq1 {q : Rat} {Q : D → Prop} : ixD (rq q) (.int 1) Q = Q (.int (q.den : Int)) := rfl
theorem rq_inj {p q : Rat} : rq p = rq q ↔ p = q := by
  constructor
  · intro h
    unfold rq at h
    simp only [D.tup.injEq, List.cons.injEq, D.int.injEq, and_true] at h
    exact Rat.ext h.1 (by omega)
  · intro h; rw [h]
theorem eqD_rq {p q : Rat} : eqD (rq p) (rq q) = decide (p = q) := by
  unfold rq
  rw [eqD_rat]
  by_cases h : p = q
  · subst h; simp
  · rw [decide_eq_false h]
    by_cases h1 : p.num = q.num
    · have h2 : ¬ (p.den : Int) = (q.den : Int) := fun z => h (Rat.ext h1 (by omega))
      simp [h2]
    · simp [h1]
theorem c_eqR {p q : Rat} {Q : Bool → Prop} : opC .Eq (rq p) (rq q) Q = Q (decide (p = q)) := by
  have e : opC .Eq (rq p) (rq q) Q = (shp (rq p) ∧ shp (rq q) ∧ Q (eqD (rq p) (rq q))) := rfl
  rw [e, eqD_rq]
  exact propext ⟨fun h => h.2.2, fun h => ⟨rfl, rfl, h⟩⟩
theorem c_neR {p q : Rat} {Q : Bool → Prop} : opC .NotEq (rq p) (rq q) Q = Q (!decide (p = q)) := by
  have e : opC .NotEq (rq p) (rq q) Q = (shp (rq p) ∧ shp (rq q) ∧ Q (!eqD (rq p) (rq q))) := rfl
  rw [e, eqD_rq]
  exact propext ⟨fun h => h.2.2, fun h => ⟨rfl, rfl, h⟩⟩
theorem rq_int (a : Int) : rq (a : Rat) = .tup [.int a, .int 1] := by
  unfold rq
  rw [Rat.num_intCast, Rat.den_intCast]
  rfl
theorem rq_zero : rq 0 = .tup [.int 0, .int 1] := rfl
theorem c_eqR0 {p : Rat} {Q : Bool → Prop} : opC .Eq (rq p) (.tup [.int 0, .int 1]) Q = Q (decide (p = 0)) := c_eqR (q := 0)
theorem c_neR0 {p : Rat} {Q : Bool → Prop} : opC .NotEq (rq p) (.tup [.int 0, .int 1]) Q = Q (!decide (p = 0)) := c_neR (q := 0)
theorem isNon_rq {p : Rat} : isNon (rq p) = false := rfl
theorem shp_rqT {p : Rat} : shp (rq p) = True := eq_true rfl
theorem clsD_rq_tuple {p : Rat} : clsD "tuple" (rq p) = some true := rfl
theorem f_len_rq {p : Rat} {Q : D → Prop} : fLen (rq p) Q = Q (.int 2) := rfl
/-! points -/
def pt (p : Int × Int) : D := .tup [.int p.1, .int p.2]
theorem ix_pt0 {p : Int × Int} {Q : D → Prop} : ixD (pt p) (.int 0) Q = Q (.int p.1) := rfl
theorem ix_pt1 {p : Int × Int} {Q : D → Prop} : ixD (pt p) (.int 1) Q = Q (.int p.2) := rfl
theorem atI_map {α : Type} {f : α → D} {l : List α} {k : Nat} {a : α} (h : l[k]? = some a) : atI (l.map f) (k : Int) = some (f a) := by
  rw [atI_nat (List.getElem?_eq_getElem (by rw [List.length_map]; exact (List.getElem?_eq_some_iff.mp h).1))]
  simp [(List.getElem?_eq_some_iff.mp h).2]
theorem div_one_r {a : Int} : (a : Rat) / ((1 : Int) : Rat) = (a : Rat) := by
  have h1 : ((1 : Int) : Rat) = 1 := rfl
  rw [h1]; grind
instance {n : Nat} {a : Int} : Decidable (Bs n a) := inferInstanceAs (Decidable (a.natAbs < 2 ^ n))
theorem Bs.small {a : Int} (h1 : -1000000000000000000 ≤ a) (h2 : a ≤ 1000000000000000000) : Bs 60 a := by
  unfold Bs
  have : (2 : Nat) ^ 60 = 1152921504606846976 := by decide
  omega
theorem mulS {a b : Int} (h1 : -1000000000000000000 ≤ a ∧ a ≤ 1000000000000000000) (h2 : -1000000000000000000 ≤ b ∧ b ≤ 1000000000000000000) : MulOk a b := (Bs.small h1.1 h1.2).mulOk (Bs.small h2.1 h2.2) (by omega)
theorem sz0 : ((0 : Nat) ≤ sizeLine) = True := eq_true (by decide)
theorem sz1 : ((0 + 1 : Nat) ≤ sizeLine) = True := eq_true (by decide)
theorem sz2 : ((0 + 1 + 1 : Nat) ≤ sizeLine) = True := eq_true (by decide)
theorem sz3 : ((0 + 1 + 1 + 1 : Nat) ≤ sizeLine) = True := eq_true (by decide)
theorem sz4 : ((0 + 1 + 1 + 1 + 1 : Nat) ≤ sizeLine) = True := eq_true (by decide)
theorem sz5 : ((0 + 1 + 1 + 1 + 1 + 1 : Nat) ≤ sizeLine) = True := eq_true (by decide)
theorem sz6 : ((0 + 1 + 1 + 1 + 1 + 1 + 1 : Nat) ≤ sizeLine) = True := eq_true (by decide)
theorem sz7 : ((0 + 1 + 1 + 1 + 1 + 1 + 1 + 1 : Nat) ≤ sizeLine) = True := eq_true (by decide)
theorem sz8 : ((0 + 1 + 1 + 1 + 1 + 1 + 1 + 1 + 1 : Nat) ≤ sizeLine) = True := eq_true (by decide)
/-! ### the arithmetic of ratios: the program's -/
theorem add_q (p q : Rat) : ((p.num * (q.den : Int) + q.num * (p.den : Int) : Int) : Rat) / (((p.den : Int) * (q.den : Int) : Int) : Rat) = p + q := by
  rw [Rat.intCast_add, Rat.intCast_mul, Rat.intCast_mul, Rat.intCast_mul, num_eq p, num_eq q]
  have h1 := denR_ne p
  have h2 := denR_ne q
  grind
theorem sub_q (p q : Rat) : ((p.num * (q.den : Int) - q.num * (p.den : Int) : Int) : Rat) / (((p.den : Int) * (q.den : Int) : Int) : Rat) = p - q := by
  rw [Rat.intCast_sub, Rat.intCast_mul, Rat.intCast_mul, Rat.intCast_mul, num_eq p, num_eq q]
  have h1 := denR_ne p
  have h2 := denR_ne q
  grind
theorem mul_q (p q : Rat) : ((p.num * q.num : Int) : Rat) / (((p.den : Int) * (q.den : Int) : Int) : Rat) = p * q := by
  rw [Rat.intCast_mul, Rat.intCast_mul, num_eq p, num_eq q]
  have h1 := denR_ne p
  have h2 := denR_ne q
  grind
theorem div_q (p q : Rat) (hq : q ≠ 0) : ((p.num * (q.den : Int) : Int) : Rat) / (((p.den : Int) * q.num : Int) : Rat) = p / q := by
  rw [Rat.intCast_mul, Rat.intCast_mul, num_eq p, num_eq q]
  have h1 := denR_ne p
  have h2 := denR_ne q
  grind
theorem Bq.add {n m : Nat} {p q : Rat} (h : Bq n p) (h' : Bq m q) : Bq (n + m + 1) (p + q) := by
  rw [← add_q]
  refine Bq.div ?_ ((h.2.mul h'.2).mono (by omega)) (Int.mul_ne_zero (den_ne p) (den_ne q))
  exact ((h.1.mul h'.2).add (h'.1.mul h.2)).mono (by omega)
theorem Bq.sub {n m : Nat} {p q : Rat} (h : Bq n p) (h' : Bq m q) : Bq (n + m + 1) (p - q) := by
  rw [← sub_q]
  refine Bq.div ?_ ((h.2.mul h'.2).mono (by omega)) (Int.mul_ne_zero (den_ne p) (den_ne q))
  exact ((h.1.mul h'.2).sub (h'.1.mul h.2)).mono (by omega)
theorem Bq.mul {n m : Nat} {p q : Rat} (h : Bq n p) (h' : Bq m q) : Bq (n + m) (p * q) := by
  rw [← mul_q]
  exact Bq.div (h.1.mul h'.1) (h.2.mul h'.2) (Int.mul_ne_zero (den_ne p) (den_ne q))
theorem num_ne {q : Rat} (h : q ≠ 0) : q.num ≠ 0 := fun z => h (Rat.num_eq_zero.mp z)
theorem Bq.quot {n m : Nat} {p q : Rat} (h : Bq n p) (h' : Bq m q) (hq : q ≠ 0) : Bq (n + m) (p / q) := by
  rw [← div_q p q hq]
  exact Bq.div (h.1.mul h'.2) (h.2.mul h'.1) (Int.mul_ne_zero (den_ne p) (num_ne hq))
theorem Bq.zero {n : Nat} (hn : 1 ≤ n) : Bq n 0 := Bq.int (a := 0) (Bs.of (k := 0) (by decide) (Nat.pow_pos (by omega))) hn
theorem any_rq {t : Rat} : ∀ ts : List Rat, ((ts.map rq).any fun z => eqD z (rq t)) = decide (t ∈ ts)
  | [] => by simp
  | a :: ts => by
    rw [List.map_cons, List.any_cons, any_rq ts, eqD_rq]
    by_cases h : a = t
    · subst h; simp
    · have h' : ¬ t = a := fun z => h z.symm
      simp [h, h']
/-- the shape of data, with the depth -/
def Shn (n : Nat) (d : D) : Prop := d.py.canLay0 = true ∧ d.py.depth ≤ n
theorem Shn.shp {n : Nat} {d : D} (h : Shn n d) (hn : n ≤ 64) : shp d := by
  show (d.py.canLay0 && decide (d.py.depth ≤ 64)) = true
  rw [h.1, decide_eq_true (Nat.le_trans h.2 hn)]; rfl
theorem Shn.mono {n m : Nat} {d : D} (h : Shn n d) (hn : n ≤ m) : Shn m d := ⟨h.1, Nat.le_trans h.2 hn⟩
theorem Shn.alls {n : Nat} : ∀ {l : List D}, (∀ x ∈ l, Shn n x) → PyData.canLayAll0 (D.pys l) = true ∧ PyData.depthAll (D.pys l) ≤ n
  | [], _ => ⟨rfl, Nat.zero_le _⟩
  | a :: l, h => by
    have h1 := h a List.mem_cons_self
    have h2 := Shn.alls fun x hx => h x (List.mem_cons_of_mem _ hx)
    unfold D.pys PyData.canLayAll0 PyData.depthAll
    rw [h1.1, h2.1]
    exact ⟨rfl, Nat.max_le.mpr ⟨h1.2, h2.2⟩⟩
theorem Shn.tup {n : Nat} {l : List D} (h : ∀ x ∈ l, Shn n x) : Shn (n + 1) (.tup l) := by
  have := Shn.alls h
  unfold Shn D.py PyData.canLay0 PyData.depth
  exact ⟨this.1, Nat.succ_le_succ this.2⟩
theorem Shn.lst {n : Nat} {l : List D} (h : ∀ x ∈ l, Shn n x) : Shn (n + 1) (.lst l) := by
  have := Shn.alls h
  unfold Shn D.py PyData.canLay0 PyData.depth
  exact ⟨this.1, Nat.succ_le_succ this.2⟩
theorem Shn.int {n : Nat} {i : Int} : Shn n (.int i) := by
  unfold Shn D.py PyData.canLay0 PyData.depth
  exact ⟨rfl, Nat.zero_le _⟩
theorem Shn.rq {n : Nat} {q : Rat} : Shn (n + 1) (rq q) := Shn.tup fun x hx => by
  simp only [List.mem_cons, List.not_mem_nil, or_false] at hx
  rcases hx with rfl | rfl <;> exact Shn.int
theorem shp_rqs {ts : List Rat} : shp (.lst (ts.map rq)) = True := eq_true ((Shn.lst (n := 1) fun x hx => by
  obtain ⟨q, _, rfl⟩ := List.mem_map.mp hx
  exact Shn.rq).shp (by omega))
end Pm

namespace Pm
open PySem PySem.Spec PyProof.Rows L2
local macro_rules | `(tactic| walk_at "pm") => `(tactic| simp only [e_fd, fd_ob, fd_fz, fd_ow, fd_dk, lk_hit, lk_miss, lk_nil, pt_hit, pt_miss, pt_nil, nA_alf, vw_alf, af_ob, af_ds, afF_ds, setRf_ds, fcD_tow, fcU_fz, fcU_ow, fcU_dk, fcU_tow, fcU_tdk, fcR_fz, fcR_ow, fcR_dk, fcR_tow, fcR_tdk, Option.map_some, fcD_fz, fcD_ow, fcD_dk, cf_alf, cf_al, cf_va, afF_ob, alF_at, fzC_alf, afZ_ob, afZ_fz, afZ_ow, stC_alf, e_sFd, sfd_at, e_me, me_ob, oN_none, isOw_ob, e_mk, hd_cons, e_muR, muR1_ow, muR2_ow, isPl_al, isPl_alf, setR_al, setR_alf, setRf_ob, e_dn, e_dkK, dk1_dk, dk2_k, kD_int, kD_str, e_dg, e_di, e_diT, e_dp, e_keyK, e_dcc, dc_nil, dc_cons, e_srt, seqD_l, seqD_t, e_rev, f_lcm, c_inT, c_ninT, nq_1, nq_2, nq_3, nq_4, nq_5, nq_6, nq_7, Bool.false_bne, Bool.true_bne, e_lcO, e_mth, e_mth0, tyK_lst, tyK_str, tyD_lst, tyD_str, f_index, e_iEnum, enK_one, walkE_lst, walkE_tup, e_cSort, srtK_lst, f_maxL, f_minL, shp_rqs, any_rq, sz0, sz1, sz2, sz3, sz4, sz5, sz6, sz7, sz8, ix_pt0, ix_pt1, true_false_F, c_eqB, c_neB, sq_nx, ix_rq0, ix_rq1, c_eqR, c_neR, c_eqR0, c_neR0, isNon_rq, shp_rqT, clsD_rq_tuple, f_len_rq, e_iAny, walkA_lst, walkA_tup, e_oNone, e_oSome, oiK_int, e_slice, sl_lstD, sl_tupD, sl_strD, intK_int, e_chG, e_chT_le_lt, e_chT_lt_le, e_chT_le_le, e_chT_lt_lt, e_ch_le_lt, e_ch_lt_le, e_ch_le_le, e_ch_lt_lt, f_sum, f_all, f_any, e_mu, muN_ow, muK_ow, f_app, f_ext, f_pop, f_ins, sq_rt, sq_bk, sq_ct, sq_ex, lp_nx, lp_ct, lp_bk, lp_rt, lp_ex, fn_nx, fn_rt, fn_ex, oD_some, oD_none, e_nm, nm_fz, nm_ow, nm_dk, e_nmC, nmc_fz, e_K, vw_fz, vw_ow, vw_al, alV_fz, alV_ow, nA_va, nA_al, fzC_fz, fzC_ow, fzC_al, alZ_fz, alZ_ow, stC_va, stC_al, fzL_nil, fzL_cons, e_fzK, b_addI, b_addS, b_addL, b_addT, b_sub, b_mul, b_div, b_mod, b_pow, c_lt, c_le, c_gt, c_ge, c_eqS, c_neS, c_eqI, c_neI, c_eqT, c_neT, c_eqL, c_neL, c_is, c_isn, c_in, c_nin, isNon_non, isNon_int, isNon_str, isNon_tup, isNon_lst, isNon_bl, shp_intT, shp_nonT, shp_blT, shp_ratT, eqD_rat, e_bin, e_cmp, e_cmpT, e_tru, tru_bl, tru_int, tru_non, tru_lst, tru_tup, tru_str, trs_bl, trs_int, trs_non, trs_lst, trs_tup, trs_str, e_and, e_or, e_not, e_yes, isB_bl, e_andV, e_orV, e_notV, e_ifE, e_neg, neg_int, e_aNil, e_aOne, e_aCons, e_tup, e_lst, e_ix, ix_tupD, ix_lstD, ix_strD, e_isi, e_cb, e_cD1, e_cD2, e_list, list_tup, list_lst, list_scr, e_tuple, tup_tup, tup_lst, f_len_tup, f_len_lst, f_len_scr, f_len_str, f_int, f_abs, f_gcd, f_max, f_min, e_call, e_callK, fzM_nil, fzM_f, fzM_t, isOw_fz, isOw_ow, isOw_no, isOw_dk, brs_nil, brs_l, brs_r, cts_nil, cts_l, cts_r, wb_nil, wb_l, wb_r, outs_nil, outs_cons, ret_va, ret_al, e_sNil, e_seq, e_pass, e_brk, e_cnt, e_never, e_ret, e_retN, e_exp, e_if, e_set, e_aug, aug_int, augK_int, e_par, par_2, e_asg, e_sub, subN_ow, subK_ow, e_for, for_nil, for_cons, tg_nm, tg_tp, tgs_nil, tgs_cons, e_rng1, e_rng2, rngL1_1, rngL2_2, rngK1_int, rngK2_int, e_iLst, e_iTup, walkL_lst, walkT_tup, e_lc, lc_nil, lc_cons, wipeE_nil, wipeE_cons, clsD_int_int, clsD_int_bool, clsD_int_str, clsD_int_tuple, clsD_str_str, clsD_str_tuple, clsD_str_int, clsD_tup_tuple, clsD_tup_str, clsD_tup_int, clsD_non_tuple, clsD_non_str, clsD_non_int, clsD_bl_bool, clsD_bl_int, clsD_bl_tuple, atI_0, atI_1, atI_2, atI_3, atI_4, ixN5_0, ixN5_1, ixN5_2, ixN5_3, ixN5_4, List.map_cons, List.map_nil, List.cons_append, List.nil_append, List.append_nil, List.replicate, List.getElem?_cons_zero, List.getElem?_cons_succ, List.getD_cons_zero, List.getD_cons_succ, List.set_cons_zero, List.set_cons_succ, Option.bind_some, Option.bind_none, List.length_cons, List.length_nil, if_true, if_false, Bool.false_eq_true, Bool.not_true, Bool.not_false, Bool.not_eq_true', decide_eq_true_eq, decide_eq_false_iff_not, and_true, true_and, List.mem_cons, List.not_mem_nil, or_false, forall_eq, false_imp_iff, implies_true, List.nodup_nil, List.nodup_cons, not_false_eq_true, List.isEmpty_cons, List.isEmpty_nil, List.tail_cons, List.tail_nil])
def B_ratio_1 : TSp :=
  (sSeq (sSet 2 (tCb (cD2 fGcd) (tACons (tNm 0) (tAOne (tNm 1)))))
    (sRet (tTup (tACons (tBin (opB .FloorDiv) (tNm 0) (tNm 2)) (tAOne (tBin (opB .FloorDiv) (tNm 1) (tNm 2)))))))
def T_ratio : TSp :=
  (sSeq (sIf (tCmpT .Lt (tNm 1) (tK (.int 0))) (sPar 0 1 (tACons (tNeg (tNm 0)) (tAOne (tNeg (tNm 1))))) sNil)
    B_ratio_1)
def φ_ratio : Fn := fun cs R0 _ => ∃ (n : Nat) (a b : Int), cs = [Fz (.int a), Fz (.int b)] ∧ b ≠ 0 ∧ Bs n b ∧ n ≤ 9000 ∧ R0 (Fz (rq ((a : Rat) / (b : Rat)))) [.no, .no]
theorem fdiv_pos {a : Int} {g : Nat} : Int.fdiv a (g : Int) = a / (g : Int) := Int.fdiv_eq_ediv_of_nonneg a (by omega)
theorem sp_ratio (cs : List Ct) (R0 : Ct → List Ct → Prop) (E0 : Exn → List Ct → Prop) : φ_ratio cs R0 E0 → fnOf 1 [] T_ratio cs R0 E0 := by
  rintro ⟨n, a, b, rfl, hb, hs, hn, h⟩
  rw [← rat_mkR hb] at h
  rw [fnOf_eq]
  refine ⟨noOw _ rfl, ?_⟩
  unfold T_ratio B_ratio_1
  walk_at "pm"
  have g1 := gcd_ok' (a := a) hb hs hn
  have e1 : (-a).natAbs = a.natAbs := Int.natAbs_neg a
  have e2 : (-b).natAbs = b.natAbs := Int.natAbs_neg b
  rw [e1, e2, fdiv_pos, fdiv_pos, fdiv_pos, fdiv_pos]
  unfold mkR at h
  by_cases hlt : b < 0
  · rw [if_pos hlt] at h ⊢
    exact ⟨g1, g1, h⟩
  · rw [if_neg hlt] at h ⊢
    exact ⟨g1, g1, h⟩

/-! ### the law's gcd -/
theorem fmod_nn {a b : Nat} : Int.fmod (a : Int) (b : Int) = ((a % b : Nat) : Int) := by
  rw [Int.fmod_eq_emod_of_nonneg (a : Int) (by omega)]; rfl
def B__law_gcd_1 : TSp :=
  (sSeq (sIf (tCmpT .Eq (tNm 1) (tK (.int 0))) (sRet (tNm 0)) sNil)
    (sPar 0 1 (tACons (tNm 1) (tAOne (tBin (opB .Mod) (tCb (cD1 fInt) (tAOne (tNm 0))) (tNm 1))))))
def T__law_gcd : TSp :=
  (sSeq (sFor (iRng1 (tAOne (tK (.int 100000)))) (.nm 2) B__law_gcd_1)
    (sRet (tK (.int 1))))
def gcdBody : TSp := sSeq (sIf (tCmpT .Eq (tNm 1) (tK (.int 0))) (sRet (tNm 0)) sNil) (sPar 0 1 (tACons (tNm 1) (tAOne (tBin (opB .Mod) (tCb (cD1 fInt) (tAOne (tNm 0))) (tNm 1)))))
theorem gcd_loop {E : Ep} : ∀ (s : Nat) (ds : List D) (a b : Nat) (ct : Ct), b ≤ a → a * b < 2 ^ s → s + 1 < ds.length → (∀ ct', E.rt (.va (Fz (.int (Nat.gcd a b)))) [Fz (.int (Nat.gcd a b : Nat)), Fz (.int 0), ct']) →
    forK (.nm 2) gcdBody ds [Fz (.int a), Fz (.int b), ct] E
  | s, [], a, b, ct, _, _, hl, _ => by simp at hl
  | s, d :: ds, a, b, ct, hab, hs, hl, h => by
    rw [for_cons]
    unfold gcdBody
    walk_at "pm"
    by_cases hb : b = 0
    · subst hb
      rw [if_pos (by simp)]
      rw [Nat.gcd_zero_right] at h
      exact h _
    · rw [if_neg (by simp; omega)]
      refine ⟨by omega, ?_⟩
      rw [fmod_nn]
      have hr : a % b < b := Nat.mod_lt _ (by omega)
      have h2 : 2 * (b * (a % b)) ≤ a * b := by
        have e := Nat.div_add_mod a b
        have hq : 1 ≤ a / b := (Nat.le_div_iff_mul_le (by omega)).mpr (by omega)
        have h3 : b * 1 ≤ b * (a / b) := Nat.mul_le_mul_left b hq
        have h4 : 2 * (a % b) ≤ a := by omega
        calc 2 * (b * (a % b)) = (2 * (a % b)) * b := by rw [Nat.mul_comm b, Nat.mul_assoc]
          _ ≤ a * b := Nat.mul_le_mul_right b h4
      have hg : Nat.gcd b (a % b) = Nat.gcd a b := by rw [Nat.gcd_comm b, ← Nat.gcd_rec, Nat.gcd_comm]
      cases s with
      | zero =>
        have : 0 < a * b := Nat.mul_pos (by omega) (by omega)
        simp at hs; omega
      | succ s =>
        refine gcd_loop s ds b (a % b) _ (Nat.le_of_lt hr) ?_ (by simp at hl; omega) ?_
        · rw [Nat.pow_succ] at hs; omega
        · rw [hg]; exact h
def φ__law_gcd : Fn := fun cs R0 _ => ∃ (n : Nat) (a b : Nat), cs = [Fz (.int a), Fz (.int b)] ∧ Bs n a ∧ Bs n b ∧ n ≤ 40000 ∧ R0 (Fz (.int (Nat.gcd a b : Nat))) [.no, .no]
theorem rngD_cons (lo : Int) (n : Nat) : ∃ d ds, rngD lo (n + 1) = d :: ds ∧ ds.length = n := by
  unfold rngD
  rw [List.range_succ_eq_map]
  exact ⟨_, _, rfl, by simp⟩
theorem rngD_len (lo : Int) (n : Nat) : (rngD lo n).length = n := by simp [rngD]
theorem sp__law_gcd (cs : List Ct) (R0 : Ct → List Ct → Prop) (E0 : Exn → List Ct → Prop) : φ__law_gcd cs R0 E0 → fnOf 1 [] T__law_gcd cs R0 E0 := by
  rintro ⟨n, a, b, rfl, ha, hb, hn, h⟩
  rw [fnOf_eq]
  refine ⟨noOw _ rfl, ?_⟩
  unfold T__law_gcd
  obtain ⟨N, hN, e⟩ : ∃ N : Nat, 99999 = N ∧ ((100000 : Int)).toNat = N + 1 := ⟨99999, rfl, rfl⟩
  walk_at "pm"
  rw [e]
  refine ⟨by decide, ?_⟩
  obtain ⟨d, ds, e1, e2⟩ := rngD_cons 0 N
  have hpow : a * b < 2 ^ (n + n) := by
    rw [Nat.pow_add]; exact Nat.mul_lt_mul'' ha hb
  show forK (.nm 2) gcdBody (rngD 0 (N + 1)) _ _
  by_cases hab : b ≤ a
  · refine gcd_loop (n + n) _ a b _ hab hpow (by rw [rngD_len]; omega) fun ct' => ?_
    exact h
  · rw [e1]
    rw [for_cons]
    unfold gcdBody
    walk_at "pm"
    rw [if_neg (by simp; omega)]
    refine ⟨by omega, ?_⟩
    rw [fmod_nn, Nat.mod_eq_of_lt (by omega)]
    show forK (.nm 2) gcdBody ds _ _
    refine gcd_loop (n + n) ds b a _ (by omega) (by rw [Nat.mul_comm]; exact hpow) (by omega) fun ct' => ?_
    rw [Nat.gcd_comm]
    walk_at "pm"
    exact h
end Pm

namespace Pm
open PySem PySem.Spec PyProof.Rows L2
local macro_rules | `(tactic| walk_at "pm") => `(tactic| simp only [e_fd, fd_ob, fd_fz, fd_ow, fd_dk, lk_hit, lk_miss, lk_nil, pt_hit, pt_miss, pt_nil, nA_alf, vw_alf, af_ob, af_ds, afF_ds, setRf_ds, fcD_tow, fcU_fz, fcU_ow, fcU_dk, fcU_tow, fcU_tdk, fcR_fz, fcR_ow, fcR_dk, fcR_tow, fcR_tdk, Option.map_some, fcD_fz, fcD_ow, fcD_dk, cf_alf, cf_al, cf_va, afF_ob, alF_at, fzC_alf, afZ_ob, afZ_fz, afZ_ow, stC_alf, e_sFd, sfd_at, e_me, me_ob, oN_none, isOw_ob, e_mk, hd_cons, e_muR, muR1_ow, muR2_ow, isPl_al, isPl_alf, setR_al, setR_alf, setRf_ob, e_dn, e_dkK, dk1_dk, dk2_k, kD_int, kD_str, e_dg, e_di, e_diT, e_dp, e_keyK, e_dcc, dc_nil, dc_cons, e_srt, seqD_l, seqD_t, e_rev, f_lcm, c_inT, c_ninT, nq_1, nq_2, nq_3, nq_4, nq_5, nq_6, nq_7, Bool.false_bne, Bool.true_bne, e_lcO, e_mth, e_mth0, tyK_lst, tyK_str, tyD_lst, tyD_str, f_index, e_iEnum, enK_one, walkE_lst, walkE_tup, e_cSort, srtK_lst, f_maxL, f_minL, shp_rqs, any_rq, sz0, sz1, sz2, sz3, sz4, sz5, sz6, sz7, sz8, ix_pt0, ix_pt1, true_false_F, c_eqB, c_neB, sq_nx, ix_rq0, ix_rq1, c_eqR, c_neR, c_eqR0, c_neR0, isNon_rq, shp_rqT, clsD_rq_tuple, f_len_rq, e_iAny, walkA_lst, walkA_tup, e_oNone, e_oSome, oiK_int, e_slice, sl_lstD, sl_tupD, sl_strD, intK_int, e_chG, e_chT_le_lt, e_chT_lt_le, e_chT_le_le, e_chT_lt_lt, e_ch_le_lt, e_ch_lt_le, e_ch_le_le, e_ch_lt_lt, f_sum, f_all, f_any, e_mu, muN_ow, muK_ow, f_app, f_ext, f_pop, f_ins, sq_rt, sq_bk, sq_ct, sq_ex, lp_nx, lp_ct, lp_bk, lp_rt, lp_ex, fn_nx, fn_rt, fn_ex, oD_some, oD_none, e_nm, nm_fz, nm_ow, nm_dk, e_nmC, nmc_fz, e_K, vw_fz, vw_ow, vw_al, alV_fz, alV_ow, nA_va, nA_al, fzC_fz, fzC_ow, fzC_al, alZ_fz, alZ_ow, stC_va, stC_al, fzL_nil, fzL_cons, e_fzK, b_addI, b_addS, b_addL, b_addT, b_sub, b_mul, b_div, b_mod, b_pow, c_lt, c_le, c_gt, c_ge, c_eqS, c_neS, c_eqI, c_neI, c_eqT, c_neT, c_eqL, c_neL, c_is, c_isn, c_in, c_nin, isNon_non, isNon_int, isNon_str, isNon_tup, isNon_lst, isNon_bl, shp_intT, shp_nonT, shp_blT, shp_ratT, eqD_rat, e_bin, e_cmp, e_cmpT, e_tru, tru_bl, tru_int, tru_non, tru_lst, tru_tup, tru_str, trs_bl, trs_int, trs_non, trs_lst, trs_tup, trs_str, e_and, e_or, e_not, e_yes, isB_bl, e_andV, e_orV, e_notV, e_ifE, e_neg, neg_int, e_aNil, e_aOne, e_aCons, e_tup, e_lst, e_ix, ix_tupD, ix_lstD, ix_strD, e_isi, e_cb, e_cD1, e_cD2, e_list, list_tup, list_lst, list_scr, e_tuple, tup_tup, tup_lst, f_len_tup, f_len_lst, f_len_scr, f_len_str, f_int, f_abs, f_gcd, f_max, f_min, e_call, e_callK, fzM_nil, fzM_f, fzM_t, isOw_fz, isOw_ow, isOw_no, isOw_dk, brs_nil, brs_l, brs_r, cts_nil, cts_l, cts_r, wb_nil, wb_l, wb_r, outs_nil, outs_cons, ret_va, ret_al, e_sNil, e_seq, e_pass, e_brk, e_cnt, e_never, e_ret, e_retN, e_exp, e_if, e_set, e_aug, aug_int, augK_int, e_par, par_2, e_asg, e_sub, subN_ow, subK_ow, e_for, for_nil, for_cons, tg_nm, tg_tp, tgs_nil, tgs_cons, e_rng1, e_rng2, rngL1_1, rngL2_2, rngK1_int, rngK2_int, e_iLst, e_iTup, walkL_lst, walkT_tup, e_lc, lc_nil, lc_cons, wipeE_nil, wipeE_cons, clsD_int_int, clsD_int_bool, clsD_int_str, clsD_int_tuple, clsD_str_str, clsD_str_tuple, clsD_str_int, clsD_tup_tuple, clsD_tup_str, clsD_tup_int, clsD_non_tuple, clsD_non_str, clsD_non_int, clsD_bl_bool, clsD_bl_int, clsD_bl_tuple, atI_0, atI_1, atI_2, atI_3, atI_4, ixN5_0, ixN5_1, ixN5_2, ixN5_3, ixN5_4, List.map_cons, List.map_nil, List.cons_append, List.nil_append, List.append_nil, List.replicate, List.getElem?_cons_zero, List.getElem?_cons_succ, List.getD_cons_zero, List.getD_cons_succ, List.set_cons_zero, List.set_cons_succ, Option.bind_some, Option.bind_none, List.length_cons, List.length_nil, if_true, if_false, Bool.false_eq_true, Bool.not_true, Bool.not_false, Bool.not_eq_true', decide_eq_true_eq, decide_eq_false_iff_not, and_true, true_and, List.mem_cons, List.not_mem_nil, or_false, forall_eq, false_imp_iff, implies_true, List.nodup_nil, List.nodup_cons, not_false_eq_true, List.isEmpty_cons, List.isEmpty_nil, List.tail_cons, List.tail_nil])
def B__law_ratio_1 : TSp :=
  (sSeq (sIf (tCmpT .Lt (tNm 1) (tK (.int 0))) (sSet 2 (tBin (opB .Sub) (tK (.int 0)) (tNm 2))) sNil)
    (sRet (tTup (tACons (tBin (opB .FloorDiv) (tNm 0) (tNm 2)) (tAOne (tBin (opB .FloorDiv) (tNm 1) (tNm 2)))))))
def T__law_ratio : TSp :=
  (sSeq (sSet 2 (tCall φ__law_gcd [false, false] [] (tACons (tCb (cD1 fAbs) (tAOne (tNm 0))) (tAOne (tCb (cD1 fAbs) (tAOne (tNm 1)))))))
    B__law_ratio_1)
def φ__law_ratio : Fn := fun cs R0 _ => ∃ (n : Nat) (a b : Int), cs = [Fz (.int a), Fz (.int b)] ∧ b ≠ 0 ∧ Bs n a ∧ Bs n b ∧ n ≤ 9000 ∧ R0 (Fz (rq ((a : Rat) / (b : Rat)))) [.no, .no]
theorem fdiv_neg' {a : Int} {g : Nat} (h : (g : Int) ∣ a) : Int.fdiv a (0 - (g : Int)) = (-a) / (g : Int) := by
  have e : 0 - (g : Int) = -(g : Int) := by omega
  rw [e]
  by_cases hg : g = 0
  · subst hg; simp
  obtain ⟨k, rfl⟩ := h
  have hg' : (g : Int) ≠ 0 := by omega
  have e1 : (-((g : Int) * k)) = (g : Int) * (-k) := by rw [Int.mul_neg]
  rw [e1, Int.mul_ediv_cancel_left _ hg']
  have e2 : (g : Int) * k = (-(g : Int)) * (-k) := by rw [Int.neg_mul_neg]
  rw [e2, Int.mul_fdiv_cancel_left _ (by omega)]
theorem abs_eq (a : Int) : (if a < 0 then -a else a) = ((a.natAbs : Nat) : Int) := by
  split <;> omega
theorem Bs.abs {n : Nat} {a : Int} (h : Bs n a) : Bs n ((a.natAbs : Nat) : Int) := by unfold Bs at *; simpa using h
theorem sp__law_ratio (cs : List Ct) (R0 : Ct → List Ct → Prop) (E0 : Exn → List Ct → Prop) : φ__law_ratio cs R0 E0 → fnOf 1 [] T__law_ratio cs R0 E0 := by
  rintro ⟨n, a, b, rfl, hb, ha, hs, hn, h⟩
  rw [← rat_mkR hb] at h
  rw [fnOf_eq]
  refine ⟨noOw _ rfl, ?_⟩
  unfold T__law_ratio B__law_ratio_1
  walk_at "pm"
  simp only [abs_eq]
  refine ⟨n, a.natAbs, b.natAbs, rfl, ha.abs, hs.abs, by omega, ?_⟩
  walk_at "pm"
  have g1 := gcd_ok' (a := a) hb hs hn
  unfold mkR at h
  by_cases hlt : b < 0
  · rw [if_pos hlt] at h ⊢
    have d1 : ((Nat.gcd a.natAbs b.natAbs : Nat) : Int) ∣ a := Int.ofNat_dvd_left.mpr (Nat.gcd_dvd_left _ _)
    have d2 : ((Nat.gcd a.natAbs b.natAbs : Nat) : Int) ∣ b := Int.ofNat_dvd_left.mpr (Nat.gcd_dvd_right _ _)
    rw [fdiv_neg' d1, fdiv_neg' d2]
    have g2 : DivOk (0 - ((Nat.gcd a.natAbs b.natAbs : Nat) : Int)) := by
      refine ⟨by have := g1.1; omega, ?_⟩
      have e : (0 - ((Nat.gcd a.natAbs b.natAbs : Nat) : Int)).natAbs = ((Nat.gcd a.natAbs b.natAbs : Nat) : Int).natAbs := by omega
      rw [e]; exact g1.2
    exact ⟨g2, g2, h⟩
  · rw [if_neg hlt] at h ⊢
    rw [fdiv_pos, fdiv_pos]
    exact ⟨g1, g1, h⟩

/-! ### the law's comparison: of equal data -/
def B__law_same_1 (φ__law_same : Fn) : TSp :=
  (sSeq (sIf (tOr (tNot (tTru (tIsi "tuple" (tNm 0)))) (tCmpT .NotEq (tCb (cD1 fLen) (tAOne (tNm 0))) (tCb (cD1 fLen) (tAOne (tNm 1))))) (sRet (tK (.bl false))) sNil)
    (sRet (tCmp .Eq (tCb (cD1 fLen) (tAOne (tLc' (iRng1 (tAOne (tCb (cD1 fLen) (tAOne (tNm 1))))) (.nm 2) (tNot (tTru (tCall φ__law_same [false, false] [] (tACons (tIx (tNm 0) (tNmC 2)) (tAOne (tIx (tNm 1) (tNmC 2))))))) (tNmC 2) [2]))) (tK (.int 0)))))
def B__law_same_2 (φ__law_same : Fn) : TSp :=
  (sSeq (sIf (tTru (tIsi "str" (tNm 1))) (sRet (tAndV (tIsi "str" (tNm 0)) (tCmp .Eq (tNm 0) (tNm 1)))) sNil)
    (sRet (tAndV (tIsi "int" (tNm 0)) (tAndV (tNotV (tIsi "bool" (tNm 0))) (tCmp .Eq (tNm 0) (tNm 1))))))
def B__law_same_3 (φ__law_same : Fn) : TSp :=
  (sSeq (sIf (tCmpT .Is (tNm 1) (tK .non)) (sRet (tCmp .Is (tNm 0) (tK .non))) sNil)
    (B__law_same_2 φ__law_same))
def T__law_same (φ__law_same : Fn) : TSp :=
  (sSeq (sIf (tTru (tIsi "tuple" (tNm 1))) (B__law_same_1 φ__law_same) sNil)
    (B__law_same_3 φ__law_same))
def sameOk : Nat → D → Prop
  | 0, _ => False
  | n + 1, .tup l => l.length ≤ 16777216 ∧ ∀ x ∈ l, sameOk n x
  | _ + 1, .int _ => True
  | _ + 1, .str _ => True
  | _ + 1, .non => True
  | _ + 1, _ => False
def φ__law_sameN (n : Nat) : Fn := fun cs R0 _ => ∃ d, cs = [Fz d, Fz d] ∧ sameOk n d ∧ R0 (Fz (.bl true)) [.no, .no]
theorem rngD_mem {lo : Int} {n : Nat} {d : D} (h : d ∈ rngD lo n) : ∃ k : Nat, k < n ∧ d = .int (lo + k) := by
  unfold rngD at h
  obtain ⟨k, h1, h2⟩ := List.mem_map.mp h
  exact ⟨k, by simpa using h1, h2.symm⟩
theorem same_loop {n : Nat} {l : List D} {E : Exn → En → Prop} {R : R → En → Prop} (hl : ∀ x ∈ l, sameOk n x) (hR : R (.va (Wl [])) [Fz (.tup l), Fz (.tup l), .no]) : ∀ ds : List D, (∀ x ∈ ds, ∃ k : Nat, k < l.length ∧ x = .int (0 + k)) →
    lcK (.nm 2) (tNot (tTru (tCall (φ__law_sameN n) [false, false] [] (tACons (tIx (tNm 0) (tNmC 2)) (tAOne (tIx (tNm 1) (tNmC 2))))))) (tNmC 2) [2] E R ds [] [Fz (.tup l), Fz (.tup l), .no]
  | [], _ => by rw [lc_nil]; exact hR
  | d :: ds, h => by
    obtain ⟨k, hk, rfl⟩ := h d List.mem_cons_self
    have e : atI l (0 + (k : Int)) = some l[k] := by
      rw [Int.zero_add]; exact atI_nat (List.getElem?_eq_getElem hk)
    rw [lc_cons]
    walk_at "pm"
    rw [e]
    walk_at "pm"
    refine ⟨l[k], rfl, hl _ (List.getElem_mem hk), ?_⟩
    walk_at "pm"
    exact same_loop hl hR ds (fun x hx => h x (List.mem_cons_of_mem _ hx))
theorem sp__law_same (n : Nat) (cs : List Ct) (R0 : Ct → List Ct → Prop) (E0 : Exn → List Ct → Prop) : φ__law_sameN (n + 1) cs R0 E0 → fnOf 1 [] (T__law_same (φ__law_sameN n)) cs R0 E0 := by
  rintro ⟨d, rfl, hd, h⟩
  rw [fnOf_eq]
  refine ⟨noOw _ rfl, ?_⟩
  unfold T__law_same
  cases d with
  | tup l =>
    unfold B__law_same_1
    walk_at "pm"
    have hlen : (l.length : Int) < 2 ^ 62 := by have := hd.1; omega
    rw [if_neg (by simp)]
    refine ⟨⟨by omega, hlen⟩, ?_⟩
    refine same_loop hd.2 ?_ _ (fun x hx => ?_)
    · walk_at "pm"
      exact h
    · obtain ⟨k, h1, h2⟩ := rngD_mem hx
      exact ⟨k, by simpa using h1, h2⟩
  | non =>
    unfold B__law_same_3
    walk_at "pm"
    exact h
  | int i =>
    unfold B__law_same_3 B__law_same_2
    walk_at "pm"
    simpa using h
  | str i =>
    unfold B__law_same_3 B__law_same_2
    walk_at "pm"
    simpa using h
  | bl _ => exact hd.elim
  | lst _ => exact hd.elim
  | scr _ => exact hd.elim

theorem atI_of {α : Type} {l : List α} {i : Int} (h : 0 ≤ i) (h2 : i.toNat < l.length) : atI l i = some l[i.toNat] := by
  have := atI_nat (xs := l) (j := i.toNat) (List.getElem?_eq_getElem h2)
  rwa [show ((i.toNat : Nat) : Int) = i by omega] at this
theorem same_zero {cs : List Ct} {R0 : Ct → List Ct → Prop} {E0 : Exn → List Ct → Prop} (h : φ__law_sameN 0 cs R0 E0) : False := let ⟨_, _, h, _⟩ := h; h
def φ__law_same : Fn := φ__law_sameN 12
theorem sameOk_mono : ∀ {n : Nat} {d : D}, sameOk n d → sameOk (n + 1) d
  | 0, _, h => h.elim
  | n + 1, .tup l, h => ⟨h.1, fun x hx => sameOk_mono (h.2 x hx)⟩
  | n + 1, .int _, _ => trivial
  | n + 1, .str _, _ => trivial
  | n + 1, .non, _ => trivial
  | n + 1, .bl _, h => h.elim
  | n + 1, .lst _, h => h.elim
  | n + 1, .scr _, h => h.elim
theorem sameOk_le {n m : Nat} {d : D} (h : sameOk n d) (hm : n ≤ m) : sameOk m d := by
  induction hm with
  | refl => exact h
  | step _ ih => exact sameOk_mono ih
theorem sameOk_rat {p : Rat} {n : Nat} : sameOk (n + 2) (rq p) := ⟨by simp, fun x hx => by
  simp only [List.mem_cons, List.not_mem_nil, or_false] at hx
  rcases hx with rfl | rfl <;> trivial⟩
/-- the comparison of equal data, as the law's walk meets it -/
theorem same_eq {d d' : D} {R0 : Ct → List Ct → Prop} {E0 : Exn → List Ct → Prop} (e : d = d') (h : sameOk 12 d) (k : R0 (Fz (.bl true)) [.no, .no]) : φ__law_same [Fz d, Fz d'] R0 E0 := by
  subst e; exact ⟨d, rfl, h, k⟩
/-! ### the law's draws -/
structure Pool where
  cells : List Int
  at_ : Int
  rest : Int
  last : Int
  cnt : Int
def Pool.d (p : Pool) : List D := [.lst (p.cells.map .int), .int p.at_, .int p.rest, .int p.last, .int p.cnt]
def Pool.Ok (n : Nat) (p : Pool) : Prop := p.cells.length ≤ 63 ∧ 0 ≤ p.at_ ∧ p.at_ ≤ 63 ∧ 0 ≤ p.rest ∧ 0 ≤ p.last ∧ p.last < 10 ^ 18 ∧ 0 ≤ p.cnt ∧ p.cnt + n ≤ 2 ^ 64
theorem Pool.Ok.mono {n m : Nat} {p : Pool} (h : p.Ok n) (hm : m ≤ n) : p.Ok m := by
  obtain ⟨h1, h2, h3, h4, h5, h6, h7, h8⟩ := h
  exact ⟨h1, h2, h3, h4, h5, h6, h7, by omega⟩
def T__law_pool : TSp :=
  (sRet (tLst (tACons (tCb cList (tAOne (tNm 0))) (tACons (tK (.int 0)) (tACons (tK (.int 0)) (tACons (tK (.int 0)) (tAOne (tK (.int 0)))))))))
def φ__law_pool : Fn := fun cs R0 _ => ∃ ns : List Int, cs = [Fz (.scr ns)] ∧ ns.length ≤ 63 ∧ ∀ p : Pool, p.Ok (2 ^ 63) → R0 (Wl p.d) [.no]
theorem sp__law_pool (cs : List Ct) (R0 : Ct → List Ct → Prop) (E0 : Exn → List Ct → Prop) : φ__law_pool cs R0 E0 → fnOf 0 [] T__law_pool cs R0 E0 := by
  rintro ⟨ns, rfl, hl, h⟩
  rw [fnOf_eq]
  refine ⟨noOw _ rfl, ?_⟩
  unfold T__law_pool
  walk_at "pm"
  exact h ⟨ns, 0, 0, 0, 0⟩ ⟨hl, by simp, by simp, by simp, by simp, by simp, by simp, by simp⟩
def B__law_draw_1 : TSp :=
  (sSeq (sSub 0 (tK (.int 2)) (tBin (opB .FloorDiv) (tIx (tNm 0) (tK (.int 2))) (tNm 1)))
    (sRet (tNm 2)))
def B__law_draw_2 : TSp :=
  (sSeq (sSet 2 (tBin (opB .Mod) (tCb (cD1 fInt) (tAOne (tIx (tNm 0) (tK (.int 2))))) (tNm 1)))
    B__law_draw_1)
def B__law_draw_3 : TSp :=
  (sSeq (sSub 0 (tK (.int 2)) (tBin (opB .FloorDiv) (tNm 3) (tNm 1)))
    (sRet (tBin (opB .Mod) (tCb (cD1 fInt) (tAOne (tNm 3))) (tNm 1))))
def B__law_draw_4 : TSp :=
  (sSeq (sIf (tCmpT .GtE (tNm 3) (tBin (opB .Pow) (tK (.int 10)) (tK (.int 18)))) B__law_draw_3 sNil)
    (sSub 0 (tK (.int 3)) (tNm 3)))
def B__law_draw_5 : TSp :=
  (sSeq (sSub 0 (tK (.int 1)) (tBin (opB .Add) (tIx (tNm 0) (tK (.int 1))) (tK (.int 1))))
    B__law_draw_4)
def B__law_draw_6 : TSp :=
  (sSeq (sSet 3 (tCb (cD1 fAbs) (tAOne (tIx (tIx (tNm 0) (tK (.int 0))) (tIx (tNm 0) (tK (.int 1)))))))
    B__law_draw_5)
def B__law_draw_7 : TSp :=
  (sSeq (sSet 4 (tBin (opB .Mod) (tCb (cD1 fInt) (tAOne (tBin (opB .Add) (tBin (opB .Mult) (tNm 4) (tNm 4)) (tBin (opB .Mult) (tIx (tNm 0) (tK (.int 4))) (tK (.int 40692)))))) (tK (.int 2147483399))))
    (sRet (tBin (opB .Mod) (tCb (cD1 fInt) (tAOne (tNm 4))) (tNm 1))))
def B__law_draw_8 : TSp :=
  (sSeq (sSet 4 (tBin (opB .Mod) (tCb (cD1 fInt) (tAOne (tBin (opB .Add) (tBin (opB .Add) (tBin (opB .Mult) (tIx (tNm 0) (tK (.int 3))) (tK (.int 48271))) (tBin (opB .Mult) (tIx (tNm 0) (tK (.int 4))) (tK (.int 69621)))) (tK (.int 7919))))) (tK (.int 2147483647))))
    B__law_draw_7)
def B__law_draw_9 : TSp :=
  (sSeq (sSub 0 (tK (.int 4)) (tBin (opB .Add) (tIx (tNm 0) (tK (.int 4))) (tK (.int 1))))
    B__law_draw_8)
def B__law_draw_10 : TSp :=
  (sSeq (sIf (tAnd (tCmpT .Eq (tBin (opB .Mod) (tCb (cD1 fInt) (tAOne (tIx (tNm 0) (tK (.int 4))))) (tK (.int 8))) (tK (.int 0))) (tCmpT .Lt (tIx (tNm 0) (tK (.int 1))) (tCb (cD1 fLen) (tAOne (tIx (tNm 0) (tK (.int 0))))))) B__law_draw_6 sNil)
    B__law_draw_9)
def T__law_draw : TSp :=
  (sSeq (sIf (tCmpT .Gt (tIx (tNm 0) (tK (.int 2))) (tK (.int 0))) B__law_draw_2 sNil)
    B__law_draw_10)
def φ__law_draw : Fn := fun cs R0 _ => ∃ (n m : Nat) (p : Pool) (many : Int), cs = [Wl p.d, Fz (.int many)] ∧ p.Ok (n + 1) ∧ 0 < many ∧ Bs m many ∧ m ≤ 9000 ∧ ∀ (k : Int) (p' : Pool), 0 ≤ k → k < many → p'.Ok n → R0 (Fz (.int k)) [Wl p'.d, .no]
theorem sp__law_draw (cs : List Ct) (R0 : Ct → List Ct → Prop) (E0 : Exn → List Ct → Prop) : φ__law_draw cs R0 E0 → fnOf 3 [0] T__law_draw cs R0 E0 := by
  rintro ⟨n, m, ⟨cells, at_, rest, last, cnt⟩, many, rfl, hp, h0, hb, hm, h⟩
  obtain ⟨p1, p2, p3, p4, p5, p6, p7, p8⟩ := hp
  simp only at p1 p2 p3 p4 p5 p6 p7 p8
  rw [fnOf_eq]
  refine ⟨ow0 rfl, ?_⟩
  have hdv : DivOk many := hb.div (by omega) hm
  have m0 : many ≠ 0 := by omega
  have fm : ∀ x : Int, Int.fmod x many = x % many := fun x => Int.fmod_eq_emod_of_nonneg x (by omega)
  have fd : ∀ x : Int, Int.fdiv x many = x / many := fun x => Int.fdiv_eq_ediv_of_nonneg x (by omega)
  have mr : ∀ x : Int, 0 ≤ x % many ∧ x % many < many := fun x => ⟨Int.emod_nonneg x m0, Int.emod_lt_of_pos x h0⟩
  -- the last part: a mixed number
  have fin : ∀ (at' rest' last' : Int) (c2 c3 c4 : Ct), 0 ≤ at' → at' ≤ 63 → 0 ≤ rest' → 0 ≤ last' → last' < 10 ^ 18 →
      B__law_draw_9 [Wl [D.lst (List.map D.int cells), D.int at', D.int rest', D.int last', D.int cnt], Fz (D.int many), c2, c3, c4]
        (fnE [Wl [D.lst (List.map D.int cells), D.int at_, D.int rest, D.int last, D.int cnt], Fz (D.int many)] R0 E0) := by
    intro at' rest' last' c2 c3 c4 q1 q2 q3 q4 q5
    unfold B__law_draw_9 B__law_draw_8 B__law_draw_7
    walk_at "pm"
    have e1 : Int.fmod (last' * 48271 + (cnt + 1) * 69621 + 7919) 2147483647 = (last' * 48271 + (cnt + 1) * 69621 + 7919) % 2147483647 := Int.fmod_eq_emod_of_nonneg _ (by omega)
    rw [e1]
    have b1 : Bs 61 last' := Bs.of (k := 10 ^ 18) (by omega) (by decide)
    have b2 : Bs 66 (cnt + 1) := Bs.of (k := 2 ^ 65) (by omega) (by decide)
    have s1 : MulOk last' 48271 := b1.mulOk (m := 20) (Bs.of (k := 48271) (by decide) (by decide)) (by omega)
    have s2 : MulOk (cnt + 1) 69621 := b2.mulOk (m := 20) (Bs.of (k := 69621) (by decide) (by decide)) (by omega)
    have s4 : MulOk (cnt + 1) 40692 := b2.mulOk (m := 20) (Bs.of (k := 40692) (by decide) (by decide)) (by omega)
    have r1 := Int.emod_nonneg (last' * 48271 + (cnt + 1) * 69621 + 7919) (show (2147483647 : Int) ≠ 0 by omega)
    have r2 := Int.emod_lt_of_pos (last' * 48271 + (cnt + 1) * 69621 + 7919) (show (0 : Int) < 2147483647 by omega)
    generalize (last' * 48271 + (cnt + 1) * 69621 + 7919) % 2147483647 = z at r1 r2 ⊢
    have b3 : Bs 32 z := Bs.of (k := 2147483647) (by omega) (by decide)
    have s3 : MulOk z z := b3.mulOk b3 (by omega)
    rw [fm]
    obtain ⟨k1, k2⟩ := mr (Int.fmod (z * z + (cnt + 1) * 40692) 2147483399)
    exact ⟨s1, s2, by omega, s3, s4, by omega, m0, h _ ⟨cells, at', rest', last', cnt + 1⟩ k1 k2 ⟨p1, q1, q2, q3, q4, q5, by simp only; omega, by simp only; omega⟩⟩
  unfold T__law_draw Pool.d
  walk_at "pm"
  by_cases hr : 0 < rest
  · rw [if_pos hr]
    unfold B__law_draw_2 B__law_draw_1
    walk_at "pm"
    rw [fm, fd]
    obtain ⟨k1, k2⟩ := mr rest
    exact ⟨m0, hdv, h _ ⟨cells, at_, rest / many, last, cnt⟩ k1 k2 ⟨p1, p2, p3, Int.ediv_nonneg p4 (by omega), p5, p6, p7, by simp only; omega⟩⟩
  · rw [if_neg hr]
    have hr0 : rest = 0 := by omega
    unfold B__law_draw_10
    walk_at "pm"
    refine ⟨by omega, ?_⟩
    by_cases h8 : Int.fmod cnt 8 = 0
    · rw [if_pos (by simpa using h8)]
      by_cases hlt : at_ < (cells.map D.int).length
      · rw [if_pos (by simpa using hlt)]
        unfold B__law_draw_6 B__law_draw_5
        walk_at "pm"
        rw [List.length_map] at hlt
        have hat : atI (cells.map D.int) at_ = some (D.int cells[at_.toNat]) := by
          rw [atI_of (l := cells.map D.int) p2 (by rw [List.length_map]; omega), List.getElem_map]
        rw [hat]
        walk_at "pm"
        generalize cells[at_.toNat] = cell
        rw [abs_eq]
        unfold B__law_draw_4
        walk_at "pm"
        refine ⟨by decide, ?_⟩
        have e18 : ((10 : Int) ^ (18 : Int).toNat) = 10 ^ 18 := rfl
        rw [e18]
        by_cases hbig : (10 : Int) ^ 18 ≤ (cell.natAbs : Int)
        · rw [if_pos hbig]
          unfold B__law_draw_3
          walk_at "pm"
          rw [fm, fd]
          obtain ⟨k1, k2⟩ := mr (cell.natAbs : Int)
          exact ⟨hdv, m0, h _ ⟨cells, at_ + 1, (cell.natAbs : Int) / many, last, cnt⟩ k1 k2 ⟨p1, by simp only; omega, by simp only; omega, Int.ediv_nonneg (by omega) (by omega), p5, p6, p7, by simp only; omega⟩⟩
        · rw [if_neg hbig]
          exact fin _ _ _ _ _ _ (by omega) (by omega) p4 (by omega) (by omega)
      · rw [if_neg (by simpa using hlt)]
        exact fin _ _ _ _ _ _ p2 p3 p4 p5 p6
    · rw [if_neg (by simpa using h8)]
      exact fin _ _ _ _ _ _ p2 p3 p4 p5 p6
end Pm

namespace Pm
open PySem PySem.Spec PyProof.Rows L2
local macro_rules | `(tactic| walk_at "pm") => `(tactic| simp only [e_fd, fd_ob, fd_fz, fd_ow, fd_dk, lk_hit, lk_miss, lk_nil, pt_hit, pt_miss, pt_nil, nA_alf, vw_alf, af_ob, af_ds, afF_ds, setRf_ds, fcD_tow, fcU_fz, fcU_ow, fcU_dk, fcU_tow, fcU_tdk, fcR_fz, fcR_ow, fcR_dk, fcR_tow, fcR_tdk, Option.map_some, fcD_fz, fcD_ow, fcD_dk, cf_alf, cf_al, cf_va, afF_ob, alF_at, fzC_alf, afZ_ob, afZ_fz, afZ_ow, stC_alf, e_sFd, sfd_at, e_me, me_ob, oN_none, isOw_ob, e_mk, hd_cons, e_muR, muR1_ow, muR2_ow, isPl_al, isPl_alf, setR_al, setR_alf, setRf_ob, e_dn, e_dkK, dk1_dk, dk2_k, kD_int, kD_str, e_dg, e_di, e_diT, e_dp, e_keyK, e_dcc, dc_nil, dc_cons, e_srt, seqD_l, seqD_t, e_rev, f_lcm, c_inT, c_ninT, nq_1, nq_2, nq_3, nq_4, nq_5, nq_6, nq_7, Bool.false_bne, Bool.true_bne, e_lcO, e_mth, e_mth0, tyK_lst, tyK_str, tyD_lst, tyD_str, f_index, e_iEnum, enK_one, walkE_lst, walkE_tup, e_cSort, srtK_lst, f_maxL, f_minL, shp_rqs, any_rq, sz0, sz1, sz2, sz3, sz4, sz5, sz6, sz7, sz8, ix_pt0, ix_pt1, true_false_F, c_eqB, c_neB, sq_nx, ix_rq0, ix_rq1, c_eqR, c_neR, c_eqR0, c_neR0, isNon_rq, shp_rqT, clsD_rq_tuple, f_len_rq, e_iAny, walkA_lst, walkA_tup, e_oNone, e_oSome, oiK_int, e_slice, sl_lstD, sl_tupD, sl_strD, intK_int, e_chG, e_chT_le_lt, e_chT_lt_le, e_chT_le_le, e_chT_lt_lt, e_ch_le_lt, e_ch_lt_le, e_ch_le_le, e_ch_lt_lt, f_sum, f_all, f_any, e_mu, muN_ow, muK_ow, f_app, f_ext, f_pop, f_ins, sq_rt, sq_bk, sq_ct, sq_ex, lp_nx, lp_ct, lp_bk, lp_rt, lp_ex, fn_nx, fn_rt, fn_ex, oD_some, oD_none, e_nm, nm_fz, nm_ow, nm_dk, e_nmC, nmc_fz, e_K, vw_fz, vw_ow, vw_al, alV_fz, alV_ow, nA_va, nA_al, fzC_fz, fzC_ow, fzC_al, alZ_fz, alZ_ow, stC_va, stC_al, fzL_nil, fzL_cons, e_fzK, b_addI, b_addS, b_addL, b_addT, b_sub, b_mul, b_div, b_mod, b_pow, c_lt, c_le, c_gt, c_ge, c_eqS, c_neS, c_eqI, c_neI, c_eqT, c_neT, c_eqL, c_neL, c_is, c_isn, c_in, c_nin, isNon_non, isNon_int, isNon_str, isNon_tup, isNon_lst, isNon_bl, shp_intT, shp_nonT, shp_blT, shp_ratT, eqD_rat, e_bin, e_cmp, e_cmpT, e_tru, tru_bl, tru_int, tru_non, tru_lst, tru_tup, tru_str, trs_bl, trs_int, trs_non, trs_lst, trs_tup, trs_str, e_and, e_or, e_not, e_yes, isB_bl, e_andV, e_orV, e_notV, e_ifE, e_neg, neg_int, e_aNil, e_aOne, e_aCons, e_tup, e_lst, e_ix, ix_tupD, ix_lstD, ix_strD, e_isi, e_cb, e_cD1, e_cD2, e_list, list_tup, list_lst, list_scr, e_tuple, tup_tup, tup_lst, f_len_tup, f_len_lst, f_len_scr, f_len_str, f_int, f_abs, f_gcd, f_max, f_min, e_call, e_callK, fzM_nil, fzM_f, fzM_t, isOw_fz, isOw_ow, isOw_no, isOw_dk, brs_nil, brs_l, brs_r, cts_nil, cts_l, cts_r, wb_nil, wb_l, wb_r, outs_nil, outs_cons, ret_va, ret_al, e_sNil, e_seq, e_pass, e_brk, e_cnt, e_never, e_ret, e_retN, e_exp, e_if, e_set, e_aug, aug_int, augK_int, e_par, par_2, e_asg, e_sub, subN_ow, subK_ow, e_for, for_nil, for_cons, tg_nm, tg_tp, tgs_nil, tgs_cons, e_rng1, e_rng2, rngL1_1, rngL2_2, rngK1_int, rngK2_int, e_iLst, e_iTup, walkL_lst, walkT_tup, e_lc, lc_nil, lc_cons, wipeE_nil, wipeE_cons, clsD_int_int, clsD_int_bool, clsD_int_str, clsD_int_tuple, clsD_str_str, clsD_str_tuple, clsD_str_int, clsD_tup_tuple, clsD_tup_str, clsD_tup_int, clsD_non_tuple, clsD_non_str, clsD_non_int, clsD_bl_bool, clsD_bl_int, clsD_bl_tuple, atI_0, atI_1, atI_2, atI_3, atI_4, ixN5_0, ixN5_1, ixN5_2, ixN5_3, ixN5_4, List.map_cons, List.map_nil, List.cons_append, List.nil_append, List.append_nil, List.replicate, List.getElem?_cons_zero, List.getElem?_cons_succ, List.getD_cons_zero, List.getD_cons_succ, List.set_cons_zero, List.set_cons_succ, Option.bind_some, Option.bind_none, List.length_cons, List.length_nil, if_true, if_false, Bool.false_eq_true, Bool.not_true, Bool.not_false, Bool.not_eq_true', decide_eq_true_eq, decide_eq_false_iff_not, and_true, true_and, List.mem_cons, List.not_mem_nil, or_false, forall_eq, false_imp_iff, implies_true, List.nodup_nil, List.nodup_cons, not_false_eq_true, List.isEmpty_cons, List.isEmpty_nil, List.tail_cons, List.tail_nil])
def T_plus : TSp :=
  (sRet (tCall φ_ratio [false, false] [] (tACons (tBin (opB .Add) (tBin (opB .Mult) (tIx (tNm 0) (tK (.int 0))) (tIx (tNm 1) (tK (.int 1)))) (tBin (opB .Mult) (tIx (tNm 1) (tK (.int 0))) (tIx (tNm 0) (tK (.int 1))))) (tAOne (tBin (opB .Mult) (tIx (tNm 0) (tK (.int 1))) (tIx (tNm 1) (tK (.int 1))))))))
def φ_plus : Fn := fun cs R0 _ => ∃ (n m : Nat) (p q : Rat), cs = [Fz (rq p), Fz (rq q)] ∧ Bq n p ∧ Bq m q ∧ n + m ≤ 8000 ∧ R0 (Fz (rq (p + q))) [.no, .no]
theorem sp_plus (cs : List Ct) (R0 : Ct → List Ct → Prop) (E0 : Exn → List Ct → Prop) : φ_plus cs R0 E0 → fnOf 0 [] T_plus cs R0 E0 := by
  rintro ⟨n, m, p, q, rfl, hp, hq, hn, h⟩
  rw [fnOf_eq]
  refine ⟨noOw _ rfl, ?_⟩
  unfold T_plus
  walk_at "pm"
  refine ⟨hp.1.mulOk hq.2 (by omega), hq.1.mulOk hp.2 (by omega), hp.2.mulOk hq.2 (by omega), n + m, _, _, rfl, Int.mul_ne_zero (den_ne p) (den_ne q), hp.2.mul hq.2, by omega, ?_⟩
  walk_at "pm"
  rw [add_q]
  exact h
def T_minus : TSp :=
  (sRet (tCall φ_ratio [false, false] [] (tACons (tBin (opB .Sub) (tBin (opB .Mult) (tIx (tNm 0) (tK (.int 0))) (tIx (tNm 1) (tK (.int 1)))) (tBin (opB .Mult) (tIx (tNm 1) (tK (.int 0))) (tIx (tNm 0) (tK (.int 1))))) (tAOne (tBin (opB .Mult) (tIx (tNm 0) (tK (.int 1))) (tIx (tNm 1) (tK (.int 1))))))))
def φ_minus : Fn := fun cs R0 _ => ∃ (n m : Nat) (p q : Rat), cs = [Fz (rq p), Fz (rq q)] ∧ Bq n p ∧ Bq m q ∧ n + m ≤ 8000 ∧ R0 (Fz (rq (p - q))) [.no, .no]
theorem sp_minus (cs : List Ct) (R0 : Ct → List Ct → Prop) (E0 : Exn → List Ct → Prop) : φ_minus cs R0 E0 → fnOf 0 [] T_minus cs R0 E0 := by
  rintro ⟨n, m, p, q, rfl, hp, hq, hn, h⟩
  rw [fnOf_eq]
  refine ⟨noOw _ rfl, ?_⟩
  unfold T_minus
  walk_at "pm"
  refine ⟨hp.1.mulOk hq.2 (by omega), hq.1.mulOk hp.2 (by omega), hp.2.mulOk hq.2 (by omega), n + m, _, _, rfl, Int.mul_ne_zero (den_ne p) (den_ne q), hp.2.mul hq.2, by omega, ?_⟩
  walk_at "pm"
  rw [sub_q]
  exact h
def T_times : TSp :=
  (sRet (tCall φ_ratio [false, false] [] (tACons (tBin (opB .Mult) (tIx (tNm 0) (tK (.int 0))) (tIx (tNm 1) (tK (.int 0)))) (tAOne (tBin (opB .Mult) (tIx (tNm 0) (tK (.int 1))) (tIx (tNm 1) (tK (.int 1))))))))
def φ_times : Fn := fun cs R0 _ => ∃ (n m : Nat) (p q : Rat), cs = [Fz (rq p), Fz (rq q)] ∧ Bq n p ∧ Bq m q ∧ n + m ≤ 8000 ∧ R0 (Fz (rq (p * q))) [.no, .no]
theorem sp_times (cs : List Ct) (R0 : Ct → List Ct → Prop) (E0 : Exn → List Ct → Prop) : φ_times cs R0 E0 → fnOf 0 [] T_times cs R0 E0 := by
  rintro ⟨n, m, p, q, rfl, hp, hq, hn, h⟩
  rw [fnOf_eq]
  refine ⟨noOw _ rfl, ?_⟩
  unfold T_times
  walk_at "pm"
  refine ⟨hp.1.mulOk hq.1 (by omega), hp.2.mulOk hq.2 (by omega), n + m, _, _, rfl, Int.mul_ne_zero (den_ne p) (den_ne q), hp.2.mul hq.2, by omega, ?_⟩
  walk_at "pm"
  rw [mul_q]
  exact h
def T_over : TSp :=
  (sRet (tCall φ_ratio [false, false] [] (tACons (tBin (opB .Mult) (tIx (tNm 0) (tK (.int 0))) (tIx (tNm 1) (tK (.int 1)))) (tAOne (tBin (opB .Mult) (tIx (tNm 0) (tK (.int 1))) (tIx (tNm 1) (tK (.int 0))))))))
def φ_over : Fn := fun cs R0 _ => ∃ (n m : Nat) (p q : Rat), cs = [Fz (rq p), Fz (rq q)] ∧ q ≠ 0 ∧ Bq n p ∧ Bq m q ∧ n + m ≤ 8000 ∧ R0 (Fz (rq (p / q))) [.no, .no]
theorem sp_over (cs : List Ct) (R0 : Ct → List Ct → Prop) (E0 : Exn → List Ct → Prop) : φ_over cs R0 E0 → fnOf 0 [] T_over cs R0 E0 := by
  rintro ⟨n, m, p, q, rfl, h0, hp, hq, hn, h⟩
  rw [fnOf_eq]
  refine ⟨noOw _ rfl, ?_⟩
  unfold T_over
  walk_at "pm"
  refine ⟨hp.1.mulOk hq.2 (by omega), hp.2.mulOk hq.1 (by omega), n + m, _, _, rfl, Int.mul_ne_zero (den_ne p) (num_ne h0), hp.2.mul hq.1, by omega, ?_⟩
  walk_at "pm"
  rw [div_q p q h0]
  exact h
def T_less : TSp :=
  (sRet (tCmp .Lt (tBin (opB .Mult) (tIx (tNm 0) (tK (.int 0))) (tIx (tNm 1) (tK (.int 1)))) (tBin (opB .Mult) (tIx (tNm 1) (tK (.int 0))) (tIx (tNm 0) (tK (.int 1))))))
/-- a pair that stands for a ratio, not always in lowest terms -/
def qd (a b : Int) : D := .tup [.int a, .int b]
def φ_less : Fn := fun cs R0 _ => ∃ (n m : Nat) (a b c d : Int), cs = [Fz (qd a b), Fz (qd c d)] ∧ 0 < b ∧ 0 < d ∧ Bs n a ∧ Bs n b ∧ Bs m c ∧ Bs m d ∧ n + m ≤ 8000 ∧ R0 (Fz (.bl (decide ((a : Rat) / (b : Rat) < (c : Rat) / (d : Rat))))) [.no, .no]
theorem less_pq {a b c d : Int} (hb : 0 < b) (hd : 0 < d) : (a * d < c * b) ↔ ((a : Rat) / (b : Rat) < (c : Rat) / (d : Rat)) := by
  have h1 : (0 : Rat) < (b : Rat) := Rat.intCast_lt_intCast.mpr hb
  have h2 : (0 : Rat) < (d : Rat) := Rat.intCast_lt_intCast.mpr hd
  rw [← Rat.intCast_lt_intCast, Rat.intCast_mul, Rat.intCast_mul]
  have e1 : (a : Rat) = (a : Rat) / (b : Rat) * (b : Rat) := by grind
  have e2 : (c : Rat) = (c : Rat) / (d : Rat) * (d : Rat) := by grind
  generalize (a : Rat) / (b : Rat) = x at e1
  generalize (c : Rat) / (d : Rat) = y at e2
  rw [e1, e2]
  have h3 := Rat.mul_pos h1 h2
  constructor
  · intro h
    refine Rat.not_le.mp fun z => ?_
    have := Rat.mul_le_mul_of_nonneg_right z (Rat.le_of_lt h3)
    grind
  · intro h
    have := Rat.mul_lt_mul_of_pos_right h h3
    grind
theorem sp_less (cs : List Ct) (R0 : Ct → List Ct → Prop) (E0 : Exn → List Ct → Prop) : φ_less cs R0 E0 → fnOf 0 [] T_less cs R0 E0 := by
  rintro ⟨n, m, a, b, c, d, rfl, hb, hd, ba, bb, bc, bd, hn, h⟩
  rw [fnOf_eq]
  refine ⟨noOw _ rfl, ?_⟩
  unfold T_less qd
  walk_at "pm"
  refine ⟨ba.mulOk bd (by omega), bc.mulOk bb (by omega), ?_⟩
  rw [decide_eq_decide.mpr (less_pq hb hd)]
  exact h
theorem numden (p : Rat) : ((p.num : Int) : Rat) / (((p.den : Int)) : Rat) = p := by
  rw [num_eq p]
  have := denR_ne p
  grind
theorem less_q {cs : List Ct} {R0 : Ct → List Ct → Prop} {E0 : Exn → List Ct → Prop} (h : ∃ (n m : Nat) (p q : Rat), cs = [Fz (rq p), Fz (rq q)] ∧ Bq n p ∧ Bq m q ∧ n + m ≤ 8000 ∧ R0 (Fz (.bl (decide (p < q)))) [.no, .no]) : φ_less cs R0 E0 := by
  obtain ⟨n, m, p, q, rfl, hp, hq, hn, h⟩ := h
  refine ⟨n, m, p.num, p.den, q.num, q.den, rfl, by have := p.den_pos; omega, by have := q.den_pos; omega, hp.1, hp.2, hq.1, hq.2, hn, ?_⟩
  rw [numden, numden]
  exact h
def B_total_1 : TSp :=
  (sSeq (sFor (iAny (tNm 0)) (.nm 2) (sSet 1 (tCall φ_plus [false, false] [] (tACons (tNm 1) (tAOne (tNm 2))))))
    (sRet (tNm 1)))
def T_total : TSp :=
  (sSeq (sSet 1 (tK (.tup [(.int 0), (.int 1)])))
    B_total_1)
def rsum : List Rat → Rat → Rat
  | [], s => s
  | q :: l, s => rsum l (s + q)
theorem total_loop {n : Nat} {E : Ep} {c0 : Ct} {T : TSp} (hT : T = sSet 1 (tCall φ_plus [false, false] [] (tACons (tNm 1) (tAOne (tNm 2))))) : ∀ (l : List Rat) (s : Rat) (k : Nat) (c2 : Ct), (∀ q ∈ l, Bq n q) → Bq k s → k + (l.length + 1) * (n + 1) ≤ 8000 → (∀ c2, E.nx [c0, Fz (rq (rsum l s)), c2]) →
    forK (.nm 2) T (l.map rq) [c0, Fz (rq s), c2] E
  | [], s, k, c2, _, _, _, h => by rw [List.map_nil, for_nil]; exact h c2
  | q :: l, s, k, c2, hl, hs, hk, h => by
    rw [List.map_cons, for_cons]
    subst hT
    walk_at "pm"
    have hq := hl q List.mem_cons_self
    rw [List.length_cons, Nat.succ_mul] at hk
    refine ⟨k, n, s, q, rfl, hs, hq, by omega, ?_⟩
    walk_at "pm"
    exact total_loop rfl l (s + q) (k + n + 1) _ (fun x hx => hl x (List.mem_cons_of_mem _ hx)) (hs.add hq) (by omega) h
def φ_total : Fn := fun cs R0 _ => ∃ (n : Nat) (l : List Rat), (cs = [Fz (.lst (l.map rq))] ∨ cs = [Fz (.tup (l.map rq))]) ∧ (∀ q ∈ l, Bq n q) ∧ 1 + (l.length + 1) * (n + 1) ≤ 8000 ∧ R0 (Fz (rq (rsum l 0))) [.no]
theorem sp_total (cs : List Ct) (R0 : Ct → List Ct → Prop) (E0 : Exn → List Ct → Prop) : φ_total cs R0 E0 → fnOf 2 [] T_total cs R0 E0 := by
  rintro ⟨n, l, hc, hl, hk, h⟩
  rw [fnOf_eq]
  rcases hc with rfl | rfl
  · refine ⟨noOw _ rfl, ?_⟩
    unfold T_total B_total_1
    walk_at "pm"
    refine total_loop rfl l 0 1 _ hl (Bq.zero (by omega)) hk fun c2 => ?_
    walk_at "pm"
    exact h
  · refine ⟨noOw _ rfl, ?_⟩
    unfold T_total B_total_1
    walk_at "pm"
    refine total_loop rfl l 0 1 _ hl (Bq.zero (by omega)) hk fun c2 => ?_
    walk_at "pm"
    exact h
end Pm

namespace Pm
open PySem PySem.Spec PyProof.Rows L2
local macro_rules | `(tactic| walk_at "pm") => `(tactic| simp only [e_fd, fd_ob, fd_fz, fd_ow, fd_dk, lk_hit, lk_miss, lk_nil, pt_hit, pt_miss, pt_nil, nA_alf, vw_alf, af_ob, af_ds, afF_ds, setRf_ds, fcD_tow, fcU_fz, fcU_ow, fcU_dk, fcU_tow, fcU_tdk, fcR_fz, fcR_ow, fcR_dk, fcR_tow, fcR_tdk, Option.map_some, fcD_fz, fcD_ow, fcD_dk, cf_alf, cf_al, cf_va, afF_ob, alF_at, fzC_alf, afZ_ob, afZ_fz, afZ_ow, stC_alf, e_sFd, sfd_at, e_me, me_ob, oN_none, isOw_ob, e_mk, hd_cons, e_muR, muR1_ow, muR2_ow, isPl_al, isPl_alf, setR_al, setR_alf, setRf_ob, e_dn, e_dkK, dk1_dk, dk2_k, kD_int, kD_str, e_dg, e_di, e_diT, e_dp, e_keyK, e_dcc, dc_nil, dc_cons, e_srt, seqD_l, seqD_t, e_rev, f_lcm, c_inT, c_ninT, nq_1, nq_2, nq_3, nq_4, nq_5, nq_6, nq_7, Bool.false_bne, Bool.true_bne, e_lcO, e_mth, e_mth0, tyK_lst, tyK_str, tyD_lst, tyD_str, f_index, e_iEnum, enK_one, walkE_lst, walkE_tup, e_cSort, srtK_lst, f_maxL, f_minL, shp_rqs, any_rq, sz0, sz1, sz2, sz3, sz4, sz5, sz6, sz7, sz8, ix_pt0, ix_pt1, true_false_F, c_eqB, c_neB, sq_nx, ix_rq0, ix_rq1, c_eqR, c_neR, c_eqR0, c_neR0, isNon_rq, shp_rqT, clsD_rq_tuple, f_len_rq, e_iAny, walkA_lst, walkA_tup, e_oNone, e_oSome, oiK_int, e_slice, sl_lstD, sl_tupD, sl_strD, intK_int, e_chG, e_chT_le_lt, e_chT_lt_le, e_chT_le_le, e_chT_lt_lt, e_ch_le_lt, e_ch_lt_le, e_ch_le_le, e_ch_lt_lt, f_sum, f_all, f_any, e_mu, muN_ow, muK_ow, f_app, f_ext, f_pop, f_ins, sq_rt, sq_bk, sq_ct, sq_ex, lp_nx, lp_ct, lp_bk, lp_rt, lp_ex, fn_nx, fn_rt, fn_ex, oD_some, oD_none, e_nm, nm_fz, nm_ow, nm_dk, e_nmC, nmc_fz, e_K, vw_fz, vw_ow, vw_al, alV_fz, alV_ow, nA_va, nA_al, fzC_fz, fzC_ow, fzC_al, alZ_fz, alZ_ow, stC_va, stC_al, fzL_nil, fzL_cons, e_fzK, b_addI, b_addS, b_addL, b_addT, b_sub, b_mul, b_div, b_mod, b_pow, c_lt, c_le, c_gt, c_ge, c_eqS, c_neS, c_eqI, c_neI, c_eqT, c_neT, c_eqL, c_neL, c_is, c_isn, c_in, c_nin, isNon_non, isNon_int, isNon_str, isNon_tup, isNon_lst, isNon_bl, shp_intT, shp_nonT, shp_blT, shp_ratT, eqD_rat, e_bin, e_cmp, e_cmpT, e_tru, tru_bl, tru_int, tru_non, tru_lst, tru_tup, tru_str, trs_bl, trs_int, trs_non, trs_lst, trs_tup, trs_str, e_and, e_or, e_not, e_yes, isB_bl, e_andV, e_orV, e_notV, e_ifE, e_neg, neg_int, e_aNil, e_aOne, e_aCons, e_tup, e_lst, e_ix, ix_tupD, ix_lstD, ix_strD, e_isi, e_cb, e_cD1, e_cD2, e_list, list_tup, list_lst, list_scr, e_tuple, tup_tup, tup_lst, f_len_tup, f_len_lst, f_len_scr, f_len_str, f_int, f_abs, f_gcd, f_max, f_min, e_call, e_callK, fzM_nil, fzM_f, fzM_t, isOw_fz, isOw_ow, isOw_no, isOw_dk, brs_nil, brs_l, brs_r, cts_nil, cts_l, cts_r, wb_nil, wb_l, wb_r, outs_nil, outs_cons, ret_va, ret_al, e_sNil, e_seq, e_pass, e_brk, e_cnt, e_never, e_ret, e_retN, e_exp, e_if, e_set, e_aug, aug_int, augK_int, e_par, par_2, e_asg, e_sub, subN_ow, subK_ow, e_for, for_nil, for_cons, tg_nm, tg_tp, tgs_nil, tgs_cons, e_rng1, e_rng2, rngL1_1, rngL2_2, rngK1_int, rngK2_int, e_iLst, e_iTup, walkL_lst, walkT_tup, e_lc, lc_nil, lc_cons, wipeE_nil, wipeE_cons, clsD_int_int, clsD_int_bool, clsD_int_str, clsD_int_tuple, clsD_str_str, clsD_str_tuple, clsD_str_int, clsD_tup_tuple, clsD_tup_str, clsD_tup_int, clsD_non_tuple, clsD_non_str, clsD_non_int, clsD_bl_bool, clsD_bl_int, clsD_bl_tuple, atI_0, atI_1, atI_2, atI_3, atI_4, ixN5_0, ixN5_1, ixN5_2, ixN5_3, ixN5_4, List.map_cons, List.map_nil, List.cons_append, List.nil_append, List.append_nil, List.replicate, List.getElem?_cons_zero, List.getElem?_cons_succ, List.getD_cons_zero, List.getD_cons_succ, List.set_cons_zero, List.set_cons_succ, Option.bind_some, Option.bind_none, List.length_cons, List.length_nil, if_true, if_false, Bool.false_eq_true, Bool.not_true, Bool.not_false, Bool.not_eq_true', decide_eq_true_eq, decide_eq_false_iff_not, and_true, true_and, List.mem_cons, List.not_mem_nil, or_false, forall_eq, false_imp_iff, implies_true, List.nodup_nil, List.nodup_cons, not_false_eq_true, List.isEmpty_cons, List.isEmpty_nil, List.tail_cons, List.tail_nil])
def T__law_plus : TSp :=
  (sRet (tCall φ__law_ratio [false, false] [] (tACons (tBin (opB .Add) (tBin (opB .Mult) (tIx (tNm 0) (tK (.int 0))) (tIx (tNm 1) (tK (.int 1)))) (tBin (opB .Mult) (tIx (tNm 1) (tK (.int 0))) (tIx (tNm 0) (tK (.int 1))))) (tAOne (tBin (opB .Mult) (tIx (tNm 0) (tK (.int 1))) (tIx (tNm 1) (tK (.int 1))))))))
def φ__law_plus : Fn := fun cs R0 _ => ∃ (n m : Nat) (a b c d : Int), cs = [Fz (qd a b), Fz (qd c d)] ∧ b ≠ 0 ∧ d ≠ 0 ∧ Bs n a ∧ Bs n b ∧ Bs m c ∧ Bs m d ∧ n + m ≤ 8000 ∧ R0 (Fz (rq ((a : Rat) / (b : Rat) + (c : Rat) / (d : Rat)))) [.no, .no]
theorem sp__law_plus (cs : List Ct) (R0 : Ct → List Ct → Prop) (E0 : Exn → List Ct → Prop) : φ__law_plus cs R0 E0 → fnOf 0 [] T__law_plus cs R0 E0 := by
  rintro ⟨n, m, a, b, c, d, rfl, b0, d0, ba, bb, bc, bd, hn, h⟩
  rw [fnOf_eq]
  refine ⟨noOw _ rfl, ?_⟩
  unfold T__law_plus qd
  walk_at "pm"
  refine ⟨ba.mulOk bd (by omega), bc.mulOk bb (by omega), bb.mulOk bd (by omega), n + m + 1, _, _, rfl, Int.mul_ne_zero b0 d0, ((ba.mul bd).add (bc.mul bb)).mono (by omega), (bb.mul bd).mono (by omega), by omega, ?_⟩
  walk_at "pm"
  have e : ((a * d + c * b : Int) : Rat) / ((b * d : Int) : Rat) = (a : Rat) / (b : Rat) + (c : Rat) / (d : Rat) := by
    rw [Rat.intCast_add, Rat.intCast_mul, Rat.intCast_mul, Rat.intCast_mul]
    have h1 : (b : Rat) ≠ 0 := fun z => b0 (by exact_mod_cast z)
    have h2 : (d : Rat) ≠ 0 := fun z => d0 (by exact_mod_cast z)
    grind
  rw [e]
  exact h
theorem lplus_q {cs : List Ct} {R0 : Ct → List Ct → Prop} {E0 : Exn → List Ct → Prop} (h : ∃ (n m : Nat) (p q : Rat), cs = [Fz (rq p), Fz (rq q)] ∧ Bq n p ∧ Bq m q ∧ n + m ≤ 8000 ∧ R0 (Fz (rq (p + q))) [.no, .no]) : φ__law_plus cs R0 E0 := by
  obtain ⟨n, m, p, q, rfl, hp, hq, hn, h⟩ := h
  refine ⟨n, m, p.num, p.den, q.num, q.den, rfl, den_ne p, den_ne q, hp.1, hp.2, hq.1, hq.2, hn, ?_⟩
  rw [numden, numden]
  exact h
def T__law_minus : TSp :=
  (sRet (tCall φ__law_ratio [false, false] [] (tACons (tBin (opB .Sub) (tBin (opB .Mult) (tIx (tNm 0) (tK (.int 0))) (tIx (tNm 1) (tK (.int 1)))) (tBin (opB .Mult) (tIx (tNm 1) (tK (.int 0))) (tIx (tNm 0) (tK (.int 1))))) (tAOne (tBin (opB .Mult) (tIx (tNm 0) (tK (.int 1))) (tIx (tNm 1) (tK (.int 1))))))))
def φ__law_minus : Fn := fun cs R0 _ => ∃ (n m : Nat) (p q : Rat), cs = [Fz (rq p), Fz (rq q)] ∧ Bq n p ∧ Bq m q ∧ n + m ≤ 8000 ∧ R0 (Fz (rq (p - q))) [.no, .no]
theorem sp__law_minus (cs : List Ct) (R0 : Ct → List Ct → Prop) (E0 : Exn → List Ct → Prop) : φ__law_minus cs R0 E0 → fnOf 0 [] T__law_minus cs R0 E0 := by
  rintro ⟨n, m, p, q, rfl, hp, hq, hn, h⟩
  rw [fnOf_eq]
  refine ⟨noOw _ rfl, ?_⟩
  unfold T__law_minus
  walk_at "pm"
  refine ⟨hp.1.mulOk hq.2 (by omega), hq.1.mulOk hp.2 (by omega), hp.2.mulOk hq.2 (by omega), n + m + 1, _, _, rfl, Int.mul_ne_zero (den_ne p) (den_ne q), ((hp.1.mul hq.2).sub (hq.1.mul hp.2)).mono (by omega), (hp.2.mul hq.2).mono (by omega), by omega, ?_⟩
  walk_at "pm"
  rw [sub_q]
  exact h
def T__law_times : TSp :=
  (sRet (tCall φ__law_ratio [false, false] [] (tACons (tBin (opB .Mult) (tIx (tNm 0) (tK (.int 0))) (tIx (tNm 1) (tK (.int 0)))) (tAOne (tBin (opB .Mult) (tIx (tNm 0) (tK (.int 1))) (tIx (tNm 1) (tK (.int 1))))))))
def φ__law_times : Fn := fun cs R0 _ => ∃ (n m : Nat) (p q : Rat), cs = [Fz (rq p), Fz (rq q)] ∧ Bq n p ∧ Bq m q ∧ n + m ≤ 8000 ∧ R0 (Fz (rq (p * q))) [.no, .no]
theorem sp__law_times (cs : List Ct) (R0 : Ct → List Ct → Prop) (E0 : Exn → List Ct → Prop) : φ__law_times cs R0 E0 → fnOf 0 [] T__law_times cs R0 E0 := by
  rintro ⟨n, m, p, q, rfl, hp, hq, hn, h⟩
  rw [fnOf_eq]
  refine ⟨noOw _ rfl, ?_⟩
  unfold T__law_times
  walk_at "pm"
  refine ⟨hp.1.mulOk hq.1 (by omega), hp.2.mulOk hq.2 (by omega), n + m, _, _, rfl, Int.mul_ne_zero (den_ne p) (den_ne q), hp.1.mul hq.1, hp.2.mul hq.2, by omega, ?_⟩
  walk_at "pm"
  rw [mul_q]
  exact h
def T__law_over : TSp :=
  (sRet (tCall φ__law_ratio [false, false] [] (tACons (tBin (opB .Mult) (tIx (tNm 0) (tK (.int 0))) (tIx (tNm 1) (tK (.int 1)))) (tAOne (tBin (opB .Mult) (tIx (tNm 0) (tK (.int 1))) (tIx (tNm 1) (tK (.int 0))))))))
def φ__law_over : Fn := fun cs R0 _ => ∃ (n m : Nat) (p q : Rat), cs = [Fz (rq p), Fz (rq q)] ∧ q ≠ 0 ∧ Bq n p ∧ Bq m q ∧ n + m ≤ 8000 ∧ R0 (Fz (rq (p / q))) [.no, .no]
theorem sp__law_over (cs : List Ct) (R0 : Ct → List Ct → Prop) (E0 : Exn → List Ct → Prop) : φ__law_over cs R0 E0 → fnOf 0 [] T__law_over cs R0 E0 := by
  rintro ⟨n, m, p, q, rfl, h0, hp, hq, hn, h⟩
  rw [fnOf_eq]
  refine ⟨noOw _ rfl, ?_⟩
  unfold T__law_over
  walk_at "pm"
  refine ⟨hp.1.mulOk hq.2 (by omega), hp.2.mulOk hq.1 (by omega), n + m, _, _, rfl, Int.mul_ne_zero (den_ne p) (num_ne h0), hp.1.mul hq.2, hp.2.mul hq.1, by omega, ?_⟩
  walk_at "pm"
  rw [div_q p q h0]
  exact h
def T__law_less : TSp :=
  (sRet (tCmp .Lt (tBin (opB .Mult) (tIx (tNm 0) (tK (.int 0))) (tIx (tNm 1) (tK (.int 1)))) (tBin (opB .Mult) (tIx (tNm 1) (tK (.int 0))) (tIx (tNm 0) (tK (.int 1))))))
def φ__law_less : Fn := φ_less
theorem sp__law_less (cs : List Ct) (R0 : Ct → List Ct → Prop) (E0 : Exn → List Ct → Prop) : φ__law_less cs R0 E0 → fnOf 0 [] T__law_less cs R0 E0 := sp_less cs R0 E0
def B__law_sum_1 : TSp :=
  (sSeq (sFor (iAny (tNm 0)) (.nm 2) (sSet 1 (tCall φ__law_plus [false, false] [] (tACons (tNm 1) (tAOne (tNm 2))))))
    (sRet (tNm 1)))
def T__law_sum : TSp :=
  (sSeq (sSet 1 (tTup (tACons (tK (.int 0)) (tAOne (tK (.int 1))))))
    B__law_sum_1)
theorem lsum_loop {n N : Nat} {E : Ep} {c0 : Ct} {T : TSp} (hN : n + N ≤ 8000) (hT : T = sSet 1 (tCall φ__law_plus [false, false] [] (tACons (tNm 1) (tAOne (tNm 2))))) : ∀ (l : List Rat) (s : Rat) (c2 : Ct), (∀ q ∈ l, Bq n q) → (∀ k, k ≤ l.length → Bq N (rsum (l.take k) s)) → (∀ c2, E.nx [c0, Fz (rq (rsum l s)), c2]) →
    forK (.nm 2) T (l.map rq) [c0, Fz (rq s), c2] E
  | [], s, c2, _, _, h => by rw [List.map_nil, for_nil]; exact h c2
  | q :: l, s, c2, hl, hs, h => by
    rw [List.map_cons, for_cons]
    subst hT
    walk_at "pm"
    have hq := hl q List.mem_cons_self
    refine lplus_q ⟨N, n, s, q, rfl, hs 0 (by simp), hq, by omega, ?_⟩
    exact lsum_loop hN rfl l (s + q) _ (fun x hx => hl x (List.mem_cons_of_mem _ hx)) (fun k hk => hs (k + 1) (by simp; omega)) h
def φ__law_sum : Fn := fun cs R0 _ => ∃ (n N : Nat) (l : List Rat), cs = [Fz (.lst (l.map rq))] ∧ (∀ q ∈ l, Bq n q) ∧ (∀ k, k ≤ l.length → Bq N (rsum (l.take k) 0)) ∧ n + N ≤ 8000 ∧ R0 (Fz (rq (rsum l 0))) [.no]
theorem rsum_bq {n : Nat} : ∀ (l : List Rat) (s : Rat) (m : Nat), (∀ q ∈ l, Bq n q) → Bq m s → Bq (m + l.length * (n + 1)) (rsum l s)
  | [], s, m, _, hs => by unfold rsum; simpa using hs
  | q :: l, s, m, hl, hs => by
    unfold rsum
    have := rsum_bq (n := n) l (s + q) (m + n + 1) (fun x hx => hl x (List.mem_cons_of_mem _ hx)) (hs.add (hl q List.mem_cons_self))
    rw [List.length_cons, Nat.succ_mul]
    exact this.mono (by omega)
theorem lsum_q {cs : List Ct} {R0 : Ct → List Ct → Prop} {E0 : Exn → List Ct → Prop} (h : ∃ (n : Nat) (l : List Rat), cs = [Fz (.lst (l.map rq))] ∧ (∀ q ∈ l, Bq n q) ∧ 1 + (l.length + 1) * (n + 1) ≤ 8000 ∧ R0 (Fz (rq (rsum l 0))) [.no]) : φ__law_sum cs R0 E0 := by
  obtain ⟨n, l, rfl, hl, hn, h⟩ := h
  rw [Nat.succ_mul] at hn
  refine ⟨n, 1 + l.length * (n + 1), l, rfl, hl, fun k hk => ?_, by omega, h⟩
  have := rsum_bq (n := n) (l.take k) 0 1 (fun q hq => hl q (List.mem_of_mem_take hq)) (Bq.zero (by omega))
  refine this.mono ?_
  have h2 : (l.take k).length * (n + 1) ≤ l.length * (n + 1) := Nat.mul_le_mul_right _ (by rw [List.length_take]; omega)
  omega
theorem sp__law_sum (cs : List Ct) (R0 : Ct → List Ct → Prop) (E0 : Exn → List Ct → Prop) : φ__law_sum cs R0 E0 → fnOf 2 [] T__law_sum cs R0 E0 := by
  rintro ⟨n, N, l, rfl, hl, hk, hN, h⟩
  rw [fnOf_eq]
  refine ⟨noOw _ rfl, ?_⟩
  unfold T__law_sum B__law_sum_1
  walk_at "pm"
  refine lsum_loop hN rfl l 0 _ hl hk fun c2 => ?_
  walk_at "pm"
  exact h
def T__law_drawn : TSp :=
  (sSeq (sIf (tCmpT .Eq (tCall φ__law_draw [true, false] [] (tACons (tNm 0) (tAOne (tK (.int 4))))) (tK (.int 0))) (sRet (tCall φ__law_ratio [false, false] [] (tACons (tBin (opB .Sub) (tCall φ__law_draw [true, false] [] (tACons (tNm 0) (tAOne (tBin (opB .Pow) (tK (.int 10)) (tK (.int 40)))))) (tBin (opB .Mult) (tK (.int 5)) (tBin (opB .Pow) (tK (.int 10)) (tK (.int 39))))) (tAOne (tBin (opB .Add) (tK (.int 1)) (tCall φ__law_draw [true, false] [] (tACons (tNm 0) (tAOne (tBin (opB .Pow) (tK (.int 10)) (tK (.int 30))))))))))) sNil)
    (sRet (tCall φ__law_ratio [false, false] [] (tACons (tBin (opB .Sub) (tCall φ__law_draw [true, false] [] (tACons (tNm 0) (tAOne (tK (.int 25))))) (tK (.int 12))) (tAOne (tBin (opB .Add) (tK (.int 1)) (tCall φ__law_draw [true, false] [] (tACons (tNm 0) (tAOne (tK (.int 12)))))))))))
theorem draw_ok {n : Nat} {p : Pool} {many : Int} {R0 : Ct → List Ct → Prop} {E0 : Exn → List Ct → Prop} (hp : p.Ok (n + 1)) (h0 : 0 < many) (hb : Bs 140 many) (h : ∀ (k : Int) (p' : Pool), 0 ≤ k → k < many → p'.Ok n → R0 (Fz (.int k)) [Wl p'.d, .no]) : φ__law_draw [Wl p.d, Fz (.int many)] R0 E0 :=
  ⟨n, 140, p, many, rfl, hp, h0, hb, by omega, h⟩
def φ__law_drawn : Fn := fun cs R0 _ => ∃ (n : Nat) (p : Pool), cs = [Wl p.d] ∧ p.Ok (n + 3) ∧ ∀ (q : Rat) (p' : Pool), Bq 134 q → p'.Ok n → R0 (Fz (rq q)) [Wl p'.d]
theorem sp__law_drawn (cs : List Ct) (R0 : Ct → List Ct → Prop) (E0 : Exn → List Ct → Prop) : φ__law_drawn cs R0 E0 → fnOf 0 [0] T__law_drawn cs R0 E0 := by
  rintro ⟨n, p, rfl, hp, h⟩
  rw [fnOf_eq]
  refine ⟨ow0 rfl, ?_⟩
  unfold T__law_drawn
  walk_at "pm"
  refine draw_ok hp (by omega) (by decide) fun k p1 k1 k2 hp1 => ?_
  walk_at "pm"
  by_cases h0 : k = 0
  · rw [if_pos h0]
    have e40 : ((10 : Int) ^ (40 : Int).toNat) = 10 ^ 40 := rfl
    have e39 : ((10 : Int) ^ (39 : Int).toNat) = 10 ^ 39 := rfl
    have e30 : ((10 : Int) ^ (30 : Int).toNat) = 10 ^ 30 := rfl
    rw [e40, e39, e30]
    refine ⟨by decide, draw_ok hp1 (by decide) (Bs.of (k := 10 ^ 40) (by decide) (by decide)) fun a p2 a1 a2 hp2 => ?_⟩
    walk_at "pm"
    refine ⟨by decide, (Bs.of (n := 4) (k := 5) (by decide) (by decide)).mulOk (m := 134) (Bs.of (k := 10 ^ 39) (by decide) (by decide)) (by omega), by decide, draw_ok hp2 (by decide) (Bs.of (k := 10 ^ 30) (by decide) (by decide)) fun b p3 b1 b2 hp3 => ?_⟩
    walk_at "pm"
    have ha : Bs 134 (a - 5 * 10 ^ 39) := Bs.of (k := 10 ^ 40) (by omega) (by decide)
    have hb : Bs 134 (1 + b) := Bs.of (k := 10 ^ 40) (by omega) (by decide)
    refine ⟨134, _, _, rfl, by omega, ha, hb, by omega, ?_⟩
    walk_at "pm"
    exact h _ _ (Bq.div ha hb (by omega)) hp3
  · rw [if_neg h0]
    refine draw_ok hp1 (by omega) (by decide) fun a p2 a1 a2 hp2 => ?_
    walk_at "pm"
    refine draw_ok hp2 (by omega) (by decide) fun b p3 b1 b2 hp3 => ?_
    walk_at "pm"
    have ha : Bs 134 (a - 12) := Bs.of (k := 10 ^ 40) (by omega) (by decide)
    have hb : Bs 134 (1 + b) := Bs.of (k := 10 ^ 40) (by omega) (by decide)
    refine ⟨134, _, _, rfl, by omega, ha, hb, by omega, ?_⟩
    walk_at "pm"
    exact h _ _ (Bq.div ha hb (by omega)) hp3
end Pm

namespace Pm
open PySem PySem.Spec PyProof.Rows L2
local macro_rules | `(tactic| walk_at "pm") => `(tactic| simp only [e_fd, fd_ob, fd_fz, fd_ow, fd_dk, lk_hit, lk_miss, lk_nil, pt_hit, pt_miss, pt_nil, nA_alf, vw_alf, af_ob, af_ds, afF_ds, setRf_ds, fcD_tow, fcU_fz, fcU_ow, fcU_dk, fcU_tow, fcU_tdk, fcR_fz, fcR_ow, fcR_dk, fcR_tow, fcR_tdk, Option.map_some, fcD_fz, fcD_ow, fcD_dk, cf_alf, cf_al, cf_va, afF_ob, alF_at, fzC_alf, afZ_ob, afZ_fz, afZ_ow, stC_alf, e_sFd, sfd_at, e_me, me_ob, oN_none, isOw_ob, e_mk, hd_cons, e_muR, muR1_ow, muR2_ow, isPl_al, isPl_alf, setR_al, setR_alf, setRf_ob, e_dn, e_dkK, dk1_dk, dk2_k, kD_int, kD_str, e_dg, e_di, e_diT, e_dp, e_keyK, e_dcc, dc_nil, dc_cons, e_srt, seqD_l, seqD_t, e_rev, f_lcm, c_inT, c_ninT, nq_1, nq_2, nq_3, nq_4, nq_5, nq_6, nq_7, Bool.false_bne, Bool.true_bne, e_lcO, e_mth, e_mth0, tyK_lst, tyK_str, tyD_lst, tyD_str, f_index, e_iEnum, enK_one, walkE_lst, walkE_tup, e_cSort, srtK_lst, f_maxL, f_minL, shp_rqs, any_rq, sz0, sz1, sz2, sz3, sz4, sz5, sz6, sz7, sz8, ix_pt0, ix_pt1, true_false_F, c_eqB, c_neB, sq_nx, ix_rq0, ix_rq1, c_eqR, c_neR, c_eqR0, c_neR0, isNon_rq, shp_rqT, clsD_rq_tuple, f_len_rq, e_iAny, walkA_lst, walkA_tup, e_oNone, e_oSome, oiK_int, e_slice, sl_lstD, sl_tupD, sl_strD, intK_int, e_chG, e_chT_le_lt, e_chT_lt_le, e_chT_le_le, e_chT_lt_lt, e_ch_le_lt, e_ch_lt_le, e_ch_le_le, e_ch_lt_lt, f_sum, f_all, f_any, e_mu, muN_ow, muK_ow, f_app, f_ext, f_pop, f_ins, sq_rt, sq_bk, sq_ct, sq_ex, lp_nx, lp_ct, lp_bk, lp_rt, lp_ex, fn_nx, fn_rt, fn_ex, oD_some, oD_none, e_nm, nm_fz, nm_ow, nm_dk, e_nmC, nmc_fz, e_K, vw_fz, vw_ow, vw_al, alV_fz, alV_ow, nA_va, nA_al, fzC_fz, fzC_ow, fzC_al, alZ_fz, alZ_ow, stC_va, stC_al, fzL_nil, fzL_cons, e_fzK, b_addI, b_addS, b_addL, b_addT, b_sub, b_mul, b_div, b_mod, b_pow, c_lt, c_le, c_gt, c_ge, c_eqS, c_neS, c_eqI, c_neI, c_eqT, c_neT, c_eqL, c_neL, c_is, c_isn, c_in, c_nin, isNon_non, isNon_int, isNon_str, isNon_tup, isNon_lst, isNon_bl, shp_intT, shp_nonT, shp_blT, shp_ratT, eqD_rat, e_bin, e_cmp, e_cmpT, e_tru, tru_bl, tru_int, tru_non, tru_lst, tru_tup, tru_str, trs_bl, trs_int, trs_non, trs_lst, trs_tup, trs_str, e_and, e_or, e_not, e_yes, isB_bl, e_andV, e_orV, e_notV, e_ifE, e_neg, neg_int, e_aNil, e_aOne, e_aCons, e_tup, e_lst, e_ix, ix_tupD, ix_lstD, ix_strD, e_isi, e_cb, e_cD1, e_cD2, e_list, list_tup, list_lst, list_scr, e_tuple, tup_tup, tup_lst, f_len_tup, f_len_lst, f_len_scr, f_len_str, f_int, f_abs, f_gcd, f_max, f_min, e_call, e_callK, fzM_nil, fzM_f, fzM_t, isOw_fz, isOw_ow, isOw_no, isOw_dk, brs_nil, brs_l, brs_r, cts_nil, cts_l, cts_r, wb_nil, wb_l, wb_r, outs_nil, outs_cons, ret_va, ret_al, e_sNil, e_seq, e_pass, e_brk, e_cnt, e_never, e_ret, e_retN, e_exp, e_if, e_set, e_aug, aug_int, augK_int, e_par, par_2, e_asg, e_sub, subN_ow, subK_ow, e_for, for_nil, for_cons, tg_nm, tg_tp, tgs_nil, tgs_cons, e_rng1, e_rng2, rngL1_1, rngL2_2, rngK1_int, rngK2_int, e_iLst, e_iTup, walkL_lst, walkT_tup, e_lc, lc_nil, lc_cons, wipeE_nil, wipeE_cons, clsD_int_int, clsD_int_bool, clsD_int_str, clsD_int_tuple, clsD_str_str, clsD_str_tuple, clsD_str_int, clsD_tup_tuple, clsD_tup_str, clsD_tup_int, clsD_non_tuple, clsD_non_str, clsD_non_int, clsD_bl_bool, clsD_bl_int, clsD_bl_tuple, atI_0, atI_1, atI_2, atI_3, atI_4, ixN5_0, ixN5_1, ixN5_2, ixN5_3, ixN5_4, List.map_cons, List.map_nil, List.cons_append, List.nil_append, List.append_nil, List.replicate, List.getElem?_cons_zero, List.getElem?_cons_succ, List.getD_cons_zero, List.getD_cons_succ, List.set_cons_zero, List.set_cons_succ, Option.bind_some, Option.bind_none, List.length_cons, List.length_nil, if_true, if_false, Bool.false_eq_true, Bool.not_true, Bool.not_false, Bool.not_eq_true', decide_eq_true_eq, decide_eq_false_iff_not, and_true, true_and, List.mem_cons, List.not_mem_nil, or_false, forall_eq, false_imp_iff, implies_true, List.nodup_nil, List.nodup_cons, not_false_eq_true, List.isEmpty_cons, List.isEmpty_nil, List.tail_cons, List.tail_nil])
def T__law_pick : TSp :=
  (sRet (tIx (tNm 1) (tCall φ__law_draw [true, false] [] (tACons (tNm 0) (tAOne (tCb (cD1 fLen) (tAOne (tNm 1))))))))
def φ__law_pick : Fn := fun cs R0 _ => ∃ (n : Nat) (p : Pool) (l : List D), cs = [Wl p.d, Fz (.lst l)] ∧ p.Ok (n + 1) ∧ 1 ≤ l.length ∧ l.length ≤ 10000 ∧ ∀ (d : D) (p' : Pool), d ∈ l → p'.Ok n → R0 (Fz d) [Wl p'.d, .no]
theorem sp__law_pick (cs : List Ct) (R0 : Ct → List Ct → Prop) (E0 : Exn → List Ct → Prop) : φ__law_pick cs R0 E0 → fnOf 0 [0] T__law_pick cs R0 E0 := by
  rintro ⟨n, p, l, rfl, hp, h1, h2, h⟩
  rw [fnOf_eq]
  refine ⟨ow0 rfl, ?_⟩
  unfold T__law_pick
  walk_at "pm"
  refine draw_ok (n := n) hp (by omega) ((Bs.small (by omega) (by omega)).mono (by omega)) fun k p1 k1 k2 hp1 => ?_
  walk_at "pm"
  have e : l[k.toNat]? = some l[k.toNat] := List.getElem?_eq_getElem (by omega)
  have e2 := atI_nat e
  rw [show ((k.toNat : Nat) : Int) = k by omega] at e2
  rw [e2]
  exact h _ p1 (List.getElem_mem (by omega)) hp1
end Pm

namespace Pm
open PySem PySem.Spec PyProof.Rows L2
theorem rq_inv {n : Int} (h : 0 < n) : rq ((1 : Rat) / (n : Rat)) = .tup [.int 1, .int n] := by
  have e := rat_mkR (a := 1) (b := n) (by omega)
  have e2 : ((1 : Int) : Rat) = 1 := rfl
  rw [e2] at e
  rw [← e]
  unfold mkR rat
  have g : Nat.gcd (1 : Int).natAbs n.natAbs = 1 := Nat.gcd_one_left _
  rw [if_neg (by omega), g]
  simp
theorem rq_hf : rq ((1 : Rat) / 2) = .tup [.int 1, .int 2] := rq_inv (n := 2) (by omega)
/-! slices -/
theorem cut_take (l : List D) (k : Nat) : cutD l none (some (k : Int)) = l.take k := by
  unfold cutD
  rw [HT.sIx_nat]
  show (l.drop 0).take (min k l.length - 0) = _
  rw [List.drop_zero, Nat.sub_zero]
  by_cases h : k ≤ l.length
  · rw [Nat.min_eq_left h]
  · rw [Nat.min_eq_right (by omega), List.take_length, List.take_of_length_le (by omega)]
theorem cut_drop (l : List D) (k : Nat) : cutD l (some (k : Int)) none = l.drop k := by
  unfold cutD
  rw [HT.sIx_nat]
  show (l.drop (min k l.length)).take (l.length - min k l.length) = _
  by_cases h : k ≤ l.length
  · rw [Nat.min_eq_left h, List.take_of_length_le (by rw [List.length_drop]; omega)]
  · rw [Nat.min_eq_right (by omega), List.drop_length, List.drop_eq_nil_of_le (by omega)]; simp
/-! ## jobs, pieces, sums: plain -/
structure Job where
  nm : Str
  c : Int
  d : Int
  w : Int
def jbD (j : Job) : D := .tup [.str j.nm, .int j.c, .int j.d, .int j.w]
def heads : List Str := ["", "u", "vw", "xyz"]
def tails : List Str := ["", "z", "yy"]
def ltr (k : Nat) : Str := ⟨#[97 + k]⟩
def NameOk (k : Nat) (s : Str) : Prop := ∃ h ∈ heads, ∃ t ∈ tails, s = h ++ ltr k ++ t
def keyS (s : Str) : List Nat := s.cps.toList.filter fun c => decide (c < 117)
theorem cps_app (a b : Str) : (a ++ b).cps.toList = a.cps.toList ++ b.cps.toList := by
  show (a.cps ++ b.cps).toList = _
  simp
theorem keyS_app (a b : Str) : keyS (a ++ b) = keyS a ++ keyS b := by
  unfold keyS; rw [cps_app, List.filter_append]
theorem keyS_heads : ∀ h ∈ heads, keyS h = [] := by decide +kernel
theorem keyS_tails : ∀ h ∈ tails, keyS h = [] := by decide +kernel
theorem NameOk.key {k : Nat} {s : Str} (h : NameOk k s) (hk : k < 20) : keyS s = [97 + k] := by
  obtain ⟨a, ha, b, hb, rfl⟩ := h
  rw [keyS_app, keyS_app, keyS_heads a ha, keyS_tails b hb]
  show [] ++ (([97 + k] : List Nat).filter fun c => decide (c < 117)) ++ [] = _
  have : decide (97 + k < 117) = true := decide_eq_true (by omega)
  simp [List.filter_cons, this]
theorem NameOk.inj {k m : Nat} {s : Str} (h : NameOk k s) (h' : NameOk m s) (hk : k < 20) (hm : m < 20) : k = m := by
  have e := (h.key hk).symm.trans (h'.key hm)
  simp at e; omega
theorem heads_len : ∀ h ∈ heads, h.length ≤ 3 := by decide +kernel
theorem tails_len : ∀ h ∈ tails, h.length ≤ 2 := by decide +kernel
theorem len_app (a b : Str) : (a ++ b).length = a.length + b.length := by
  show (a.cps ++ b.cps).size = _
  rw [Array.size_append]; rfl
theorem NameOk.len {k : Nat} {s : Str} (h : NameOk k s) : s.length ≤ 6 := by
  obtain ⟨a, ha, b, hb, rfl⟩ := h
  rw [len_app, len_app]
  have h1 := heads_len a ha
  have h2 := tails_len b hb
  have h3 : (ltr k).length = 1 := rfl
  omega
theorem heads_ok : ∀ h ∈ heads, PyData.strOk h = true := by decide +kernel
theorem tails_ok : ∀ h ∈ tails, PyData.strOk h = true := by decide +kernel
theorem strOk_app {a b : Str} (h1 : PyData.strOk a = true) (h2 : PyData.strOk b = true) : PyData.strOk (a ++ b) = true := by
  unfold PyData.strOk at *
  rw [← Array.all_toList] at *
  rw [cps_app, List.all_append, h1, h2]; rfl
theorem NameOk.ok {k : Nat} {s : Str} (h : NameOk k s) (hk : k < 20) : PyData.strOk s = true := by
  obtain ⟨a, ha, b, hb, rfl⟩ := h
  refine strOk_app (strOk_app (heads_ok a ha) ?_) (tails_ok b hb)
  unfold PyData.strOk ltr
  simp
  omega
structure JobOk (k : Nat) (j : Job) : Prop where
  nm : NameOk k j.nm
  c0 : 0 ≤ j.c
  cd : j.c < j.d
  dl : j.d ≤ 10000
  w1 : 1 ≤ j.w
  wl : j.w ≤ 10000
def JobsOk (js : List Job) : Prop := js.length ≤ 20 ∧ ∀ (k : Nat) (j : Job), js[k]? = some j → JobOk k j
theorem JobsOk.inj {js : List Job} (h : JobsOk js) {i k : Nat} {a b : Job} (ha : js[i]? = some a) (hb : js[k]? = some b) (e : a.nm = b.nm) : i = k := by
  have l1 := (List.getElem?_eq_some_iff.mp ha).1
  have l2 := (List.getElem?_eq_some_iff.mp hb).1
  have := h.1
  exact (h.2 i a ha).nm.inj (e ▸ (h.2 k b hb).nm) (by omega) (by omega)
/-- a piece -/
structure Pc where
  s : Rat
  e : Rat
  nm : Str
  v : Rat
def pcD (p : Pc) : D := .tup [rq p.s, rq p.e, .str p.nm, rq p.v]
/-! sums -/
def sm : List Rat → Rat
  | [] => 0
  | a :: l => a + sm l
theorem sm_app : ∀ a b : List Rat, sm (a ++ b) = sm a + sm b
  | [], b => by rw [List.nil_append]; unfold sm; grind
  | x :: a, b => by
    show x + sm (a ++ b) = x + sm a + sm b
    rw [sm_app a b]; grind
theorem rsum_sm : ∀ (l : List Rat) (s : Rat), rsum l s = s + sm l
  | [], s => by unfold rsum sm; grind
  | a :: l, s => by unfold rsum sm; rw [rsum_sm l]; grind
theorem sm_set : ∀ (l : List Rat) (k : Nat) (x : Rat), l[k]? = some 0 → sm (l.set k x) = sm l + x
  | [], k, x, h => by simp at h
  | a :: l, 0, x, h => by
    simp at h; subst h
    rw [List.set_cons_zero]
    unfold sm; grind
  | a :: l, k + 1, x, h => by
    rw [List.set_cons_succ]
    unfold sm
    rw [sm_set l k x (by simpa using h)]; grind
/-- the sum of f over 0 .. n - 1 -/
def sr (f : Nat → Rat) : Nat → Rat
  | 0 => 0
  | n + 1 => sr f n + f n
theorem sr_congr {f g : Nat → Rat} : ∀ {n : Nat}, (∀ j, j < n → f j = g j) → sr f n = sr g n
  | 0, _ => rfl
  | n + 1, h => by
    unfold sr
    rw [sr_congr (n := n) fun j hj => h j (by omega), h n (by omega)]
theorem sr_add {f : Nat → Rat} (a : Nat) : ∀ b : Nat, sr f (a + b) = sr f a + sr (fun j => f (a + j)) b
  | 0 => by rw [Nat.add_zero]; show _ = _ + (0 : Rat); grind
  | b + 1 => by
    rw [show a + (b + 1) = (a + b) + 1 by omega]
    show sr f (a + b) + f (a + b) = sr f a + (sr (fun j => f (a + j)) b + f (a + b))
    rw [sr_add a b]; grind
theorem sr_rot {f : Nat → Rat} {n s : Nat} (hs : s < n) : sr (fun j => f ((j + s) % n)) n = sr f n := by
  have e1 : sr (fun j => f ((j + s) % n)) ((n - s) + s) = sr (fun j => f ((j + s) % n)) (n - s) + sr (fun j => f (((n - s + j) + s) % n)) s := sr_add (f := fun j => f ((j + s) % n)) (n - s) s
  rw [show n - s + s = n by omega] at e1
  rw [e1]
  have e2 : sr (fun j => f ((j + s) % n)) (n - s) = sr (fun j => f (s + j)) (n - s) := sr_congr fun j hj => by
    rw [Nat.mod_eq_of_lt (by omega), Nat.add_comm]
  have e3 : sr (fun j => f (((n - s + j) + s) % n)) s = sr f s := sr_congr fun j hj => by
    rw [show n - s + j + s = n + j by omega, Nat.add_mod_left, Nat.mod_eq_of_lt (by omega)]
  rw [e2, e3]
  have e4 := sr_add (f := f) s (n - s)
  rw [show s + (n - s) = n by omega] at e4
  rw [e4]; grind
theorem sr_nonneg {f : Nat → Rat} : ∀ {n : Nat}, (∀ j, j < n → 0 ≤ f j) → 0 ≤ sr f n
  | 0, _ => Rat.le_refl
  | n + 1, h => by
    have := sr_nonneg (f := f) (n := n) fun j hj => h j (by omega)
    have := h n (by omega)
    unfold sr; grind
theorem sr_mono {f : Nat → Rat} {m n : Nat} (hm : m ≤ n) (h : ∀ j, j < n → 0 ≤ f j) : sr f m ≤ sr f n := by
  obtain ⟨b, rfl⟩ : ∃ b, n = m + b := ⟨n - m, by omega⟩
  rw [sr_add]
  have := sr_nonneg (f := fun j => f (m + j)) (n := b) fun j hj => h _ (by omega)
  grind
theorem sm_sr : ∀ (l : List Rat), sm l = sr (fun k => l.getD k 0) l.length
  | [] => rfl
  | a :: l => by
    rw [List.length_cons, Nat.add_comm, sr_add]
    have e : sr (fun j => (a :: l).getD (1 + j) 0) l.length = sr (fun k => l.getD k 0) l.length := sr_congr fun j _ => by
      rw [Nat.add_comm]; rfl
    rw [e, ← sm_sr l]
    show a + sm l = (0 + a) + sm l
    grind
/-! what a plan does -/
def wk (p : Pc) : Rat := p.v * (p.e - p.s)
def doneW (pl : List Pc) (nm : Str) : Rat := sm (pl.map fun p => if p.nm = nm then wk p else 0)
theorem doneW_app (a b : List Pc) (nm : Str) : doneW (a ++ b) nm = doneW a nm + doneW b nm := by
  unfold doneW; rw [List.map_append, sm_app]
theorem doneW_one (p : Pc) (nm : Str) : doneW [p] nm = if p.nm = nm then wk p else 0 := by
  unfold doneW
  show (if p.nm = nm then wk p else 0) + (0 : Rat) = _
  grind
structure PlanOk (js : List Job) (pl : List Pc) : Prop where
  pos : ∀ p ∈ pl, p.s < p.e ∧ 0 < p.v
  ord : pl.Pairwise fun p q => p.e ≤ q.s
  win : ∀ p ∈ pl, ∃ j ∈ js, j.nm = p.nm ∧ (j.c : Rat) ≤ p.s ∧ p.e ≤ (j.d : Rat)
  wrk : ∀ j ∈ js, doneW pl j.nm = (j.w : Rat)
def PlanBq (n : Nat) (pl : List Pc) : Prop := ∀ p ∈ pl, Bq n p.s ∧ Bq n p.e ∧ Bq n p.v ∧ p.nm.length ≤ 8 ∧ PyData.strOk p.nm = true
end Pm

namespace Pm
open PySem PySem.Spec PyProof.Rows L2
local macro_rules | `(tactic| walk_at "pm") => `(tactic| simp only [e_fd, fd_ob, fd_fz, fd_ow, fd_dk, lk_hit, lk_miss, lk_nil, pt_hit, pt_miss, pt_nil, nA_alf, vw_alf, af_ob, af_ds, afF_ds, setRf_ds, fcD_tow, fcU_fz, fcU_ow, fcU_dk, fcU_tow, fcU_tdk, fcR_fz, fcR_ow, fcR_dk, fcR_tow, fcR_tdk, Option.map_some, fcD_fz, fcD_ow, fcD_dk, cf_alf, cf_al, cf_va, afF_ob, alF_at, fzC_alf, afZ_ob, afZ_fz, afZ_ow, stC_alf, e_sFd, sfd_at, e_me, me_ob, oN_none, isOw_ob, e_mk, hd_cons, e_muR, muR1_ow, muR2_ow, isPl_al, isPl_alf, setR_al, setR_alf, setRf_ob, e_dn, e_dkK, dk1_dk, dk2_k, kD_int, kD_str, e_dg, e_di, e_diT, e_dp, e_keyK, e_dcc, dc_nil, dc_cons, e_srt, seqD_l, seqD_t, e_rev, f_lcm, c_inT, c_ninT, nq_1, nq_2, nq_3, nq_4, nq_5, nq_6, nq_7, Bool.false_bne, Bool.true_bne, e_lcO, e_mth, e_mth0, tyK_lst, tyK_str, tyD_lst, tyD_str, f_index, e_iEnum, enK_one, walkE_lst, walkE_tup, e_cSort, srtK_lst, f_maxL, f_minL, shp_rqs, any_rq, sz0, sz1, sz2, sz3, sz4, sz5, sz6, sz7, sz8, ix_pt0, ix_pt1, true_false_F, c_eqB, c_neB, sq_nx, ix_rq0, ix_rq1, c_eqR, c_neR, c_eqR0, c_neR0, isNon_rq, shp_rqT, clsD_rq_tuple, f_len_rq, e_iAny, walkA_lst, walkA_tup, e_oNone, e_oSome, oiK_int, e_slice, sl_lstD, sl_tupD, sl_strD, intK_int, e_chG, e_chT_le_lt, e_chT_lt_le, e_chT_le_le, e_chT_lt_lt, e_ch_le_lt, e_ch_lt_le, e_ch_le_le, e_ch_lt_lt, f_sum, f_all, f_any, e_mu, muN_ow, muK_ow, f_app, f_ext, f_pop, f_ins, sq_rt, sq_bk, sq_ct, sq_ex, lp_nx, lp_ct, lp_bk, lp_rt, lp_ex, fn_nx, fn_rt, fn_ex, oD_some, oD_none, e_nm, nm_fz, nm_ow, nm_dk, e_nmC, nmc_fz, e_K, vw_fz, vw_ow, vw_al, alV_fz, alV_ow, nA_va, nA_al, fzC_fz, fzC_ow, fzC_al, alZ_fz, alZ_ow, stC_va, stC_al, fzL_nil, fzL_cons, e_fzK, b_addI, b_addS, b_addL, b_addT, b_sub, b_mul, b_div, b_mod, b_pow, c_lt, c_le, c_gt, c_ge, c_eqS, c_neS, c_eqI, c_neI, c_eqT, c_neT, c_eqL, c_neL, c_is, c_isn, c_in, c_nin, isNon_non, isNon_int, isNon_str, isNon_tup, isNon_lst, isNon_bl, shp_intT, shp_nonT, shp_blT, shp_ratT, eqD_rat, e_bin, e_cmp, e_cmpT, e_tru, tru_bl, tru_int, tru_non, tru_lst, tru_tup, tru_str, trs_bl, trs_int, trs_non, trs_lst, trs_tup, trs_str, e_and, e_or, e_not, e_yes, isB_bl, e_andV, e_orV, e_notV, e_ifE, e_neg, neg_int, e_aNil, e_aOne, e_aCons, e_tup, e_lst, e_ix, ix_tupD, ix_lstD, ix_strD, e_isi, e_cb, e_cD1, e_cD2, e_list, list_tup, list_lst, list_scr, e_tuple, tup_tup, tup_lst, f_len_tup, f_len_lst, f_len_scr, f_len_str, f_int, f_abs, f_gcd, f_max, f_min, e_call, e_callK, fzM_nil, fzM_f, fzM_t, isOw_fz, isOw_ow, isOw_no, isOw_dk, brs_nil, brs_l, brs_r, cts_nil, cts_l, cts_r, wb_nil, wb_l, wb_r, outs_nil, outs_cons, ret_va, ret_al, e_sNil, e_seq, e_pass, e_brk, e_cnt, e_never, e_ret, e_retN, e_exp, e_if, e_set, e_aug, aug_int, augK_int, e_par, par_2, e_asg, e_sub, subN_ow, subK_ow, e_for, for_nil, for_cons, tg_nm, tg_tp, tgs_nil, tgs_cons, e_rng1, e_rng2, rngL1_1, rngL2_2, rngK1_int, rngK2_int, e_iLst, e_iTup, walkL_lst, walkT_tup, e_lc, lc_nil, lc_cons, wipeE_nil, wipeE_cons, clsD_int_int, clsD_int_bool, clsD_int_str, clsD_int_tuple, clsD_str_str, clsD_str_tuple, clsD_str_int, clsD_tup_tuple, clsD_tup_str, clsD_tup_int, clsD_non_tuple, clsD_non_str, clsD_non_int, clsD_bl_bool, clsD_bl_int, clsD_bl_tuple, atI_0, atI_1, atI_2, atI_3, atI_4, ixN5_0, ixN5_1, ixN5_2, ixN5_3, ixN5_4, List.map_cons, List.map_nil, List.cons_append, List.nil_append, List.append_nil, List.replicate, List.getElem?_cons_zero, List.getElem?_cons_succ, List.getD_cons_zero, List.getD_cons_succ, List.set_cons_zero, List.set_cons_succ, Option.bind_some, Option.bind_none, List.length_cons, List.length_nil, if_true, if_false, Bool.false_eq_true, Bool.not_true, Bool.not_false, Bool.not_eq_true', decide_eq_true_eq, decide_eq_false_iff_not, and_true, true_and, List.mem_cons, List.not_mem_nil, or_false, forall_eq, false_imp_iff, implies_true, List.nodup_nil, List.nodup_cons, not_false_eq_true, List.isEmpty_cons, List.isEmpty_nil, List.tail_cons, List.tail_nil])
def B__law_name_1 : TSp :=
  (sSeq (sSet 3 (tIx (tLst (tACons (tK (.str "")) (tACons (tK (.str "u")) (tACons (tK (.str "vw")) (tAOne (tK (.str "xyz"))))))) (tCall φ__law_draw [true, false] [] (tACons (tNm 0) (tAOne (tK (.int 4)))))))
    (sRet (tBin (opB .Add) (tBin (opB .Add) (tNm 3) (tNm 2)) (tIx (tLst (tACons (tK (.str "")) (tACons (tK (.str "z")) (tAOne (tK (.str "yy")))))) (tCall φ__law_draw [true, false] [] (tACons (tNm 0) (tAOne (tK (.int 3)))))))))
def T__law_name : TSp :=
  (sSeq (sSet 2 (tIx (tK (.str "abcdefghijklmnopqrst")) (tNm 1)))
    B__law_name_1)
theorem at_ltr : ∀ k : Nat, k < 20 → (("abcdefghijklmnopqrst" : Str)).cps.toList[k]? = some (97 + k) := by decide +kernel
def φ__law_name : Fn := fun cs R0 _ => ∃ (n k : Nat) (p : Pool), cs = [Wl p.d, Fz (.int (k : Nat))] ∧ k < 20 ∧ p.Ok (n + 2) ∧ ∀ (s : Str) (p' : Pool), NameOk k s → p'.Ok n → R0 (Fz (.str s)) [Wl p'.d, .no]
theorem atI_mem {α : Type} {l : List α} {k : Int} (h0 : 0 ≤ k) (h1 : k < (l.length : Nat)) : ∃ x, x ∈ l ∧ atI l k = some x := by
  have e := atI_of (l := l) h0 (by omega)
  exact ⟨_, List.getElem_mem _, e⟩
theorem sp__law_name (cs : List Ct) (R0 : Ct → List Ct → Prop) (E0 : Exn → List Ct → Prop) : φ__law_name cs R0 E0 → fnOf 2 [0] T__law_name cs R0 E0 := by
  rintro ⟨n, k, p, rfl, hk, hp, h⟩
  rw [fnOf_eq]
  refine ⟨ow0 rfl, ?_⟩
  unfold T__law_name B__law_name_1
  walk_at "pm"
  refine ⟨by decide +kernel, ?_⟩
  rw [atI_k k (at_ltr k hk)]
  walk_at "pm"
  refine draw_ok (n := n + 1) hp (by decide) (by decide) fun a p1 a1 a2 hp1 => ?_
  walk_at "pm"
  obtain ⟨x, hx, ex⟩ := atI_mem (l := heads.map D.str) a1 (by show a < 4; exact a2)
  obtain ⟨hd, hh, rfl⟩ := List.mem_map.mp hx
  have ex : atI [D.str "", D.str "u", D.str "vw", D.str "xyz"] a = some (.str hd) := ex
  rw [ex]
  walk_at "pm"
  have l1 := heads_len hd hh
  have l3 : (ltr k).length = 1 := rfl
  refine ⟨line_small (by show hd.length + (ltr k).length ≤ _; omega), ?_⟩
  refine draw_ok (n := n) hp1 (by decide) (by decide) fun b p2 b1 b2 hp2 => ?_
  walk_at "pm"
  obtain ⟨x, hx, ex⟩ := atI_mem (l := tails.map D.str) b1 (by show b < 3; exact b2)
  obtain ⟨tl, ht, rfl⟩ := List.mem_map.mp hx
  have ex : atI [D.str "", D.str "z", D.str "yy"] b = some (.str tl) := ex
  rw [ex]
  have l2 := tails_len tl ht
  walk_at "pm"
  refine ⟨line_small ?_, ?_⟩
  · show (hd ++ ltr k).length + tl.length ≤ _
    rw [len_app]; omega
  · exact h (hd ++ ltr k ++ tl) p2 ⟨hd, hh, tl, ht, rfl⟩ hp2
def B__law_window_1 : TSp :=
  (sSeq (sSet 2 (tCall φ__law_draw [true, false] [] (tACons (tNm 0) (tAOne (tK (.int 10000))))))
    (sRet (tTup (tACons (tNm 2) (tAOne (tBin (opB .Add) (tBin (opB .Add) (tNm 2) (tK (.int 1))) (tCall φ__law_draw [true, false] [] (tACons (tNm 0) (tAOne (tBin (opB .Sub) (tK (.int 10000)) (tNm 2)))))))))))
def B__law_window_2 : TSp :=
  (sSeq (sSet 2 (tCall φ__law_draw [true, false] [] (tACons (tNm 0) (tAOne (tK (.int 20))))))
    (sRet (tTup (tACons (tNm 2) (tAOne (tBin (opB .Add) (tBin (opB .Add) (tNm 2) (tK (.int 1))) (tCall φ__law_draw [true, false] [] (tACons (tNm 0) (tAOne (tK (.int 12)))))))))))
def T__law_window : TSp :=
  (sSeq (sIf (tTru (tNm 1)) B__law_window_1 sNil)
    B__law_window_2)
def φ__law_window : Fn := fun cs R0 _ => ∃ (n : Nat) (b : Bool) (p : Pool), cs = [Wl p.d, Fz (.bl b)] ∧ p.Ok (n + 2) ∧ ∀ (c d : Int) (p' : Pool), 0 ≤ c → c < d → d ≤ 10000 → p'.Ok n → R0 (Fz (.tup [.int c, .int d])) [Wl p'.d, .no]
theorem sp__law_window (cs : List Ct) (R0 : Ct → List Ct → Prop) (E0 : Exn → List Ct → Prop) : φ__law_window cs R0 E0 → fnOf 1 [0] T__law_window cs R0 E0 := by
  rintro ⟨n, b, p, rfl, hp, h⟩
  rw [fnOf_eq]
  refine ⟨ow0 rfl, ?_⟩
  unfold T__law_window
  cases b with
  | true =>
    walk_at "pm"
    unfold B__law_window_1
    walk_at "pm"
    refine draw_ok (n := n + 1) hp (by decide) (by decide) fun a p1 a1 a2 hp1 => ?_
    walk_at "pm"
    refine draw_ok (n := n) hp1 (by omega) ((Bs.small (by omega) (by omega)).mono (by omega)) fun k p2 k1 k2 hp2 => ?_
    walk_at "pm"
    exact h _ _ p2 a1 (by omega) (by omega) hp2
  | false =>
    walk_at "pm"
    unfold B__law_window_2
    walk_at "pm"
    refine draw_ok (n := n + 1) hp (by decide) (by decide) fun a p1 a1 a2 hp1 => ?_
    walk_at "pm"
    refine draw_ok (n := n) hp1 (by decide) (by decide) fun k p2 k1 k2 hp2 => ?_
    walk_at "pm"
    exact h _ _ p2 a1 (by omega) (by omega) hp2
def B__law_jobs_1 : TSp :=
  (sSeq (sSet 8 (tIx (tNm 3) (tCall φ__law_draw [true, false] [] (tACons (tNm 0) (tAOne (tNm 4))))))
    (sPar 5 6 (tACons (tIx (tNm 8) (tK (.int 1))) (tAOne (tIx (tNm 8) (tK (.int 2)))))))
def B__law_jobs_2 : TSp :=
  (sIf (tCmpT .Lt (tIx (tNm 8) (tK (.int 2))) (tK (.int 9990))) (sPar 5 6 (tACons (tIx (tNm 8) (tK (.int 2))) (tAOne (tBin (opB .Add) (tBin (opB .Add) (tIx (tNm 8) (tK (.int 2))) (tK (.int 1))) (tCall φ__law_draw [true, false] [] (tACons (tNm 0) (tAOne (tK (.int 9))))))))) sNil)
def B__law_jobs_3 : TSp :=
  (sSeq (sSet 8 (tIx (tNm 3) (tCall φ__law_draw [true, false] [] (tACons (tNm 0) (tAOne (tNm 4))))))
    B__law_jobs_2)
def B__law_jobs_4 : TSp :=
  (sSeq (sIf (tAnd (tCmpT .Gt (tNm 4) (tK (.int 0))) (tCmpT .Eq (tCall φ__law_draw [true, false] [] (tACons (tNm 0) (tAOne (tK (.int 6))))) (tK (.int 0)))) B__law_jobs_3 sNil)
    (sExp (tMu 3 fApp (tAOne (tTup (tACons (tCall φ__law_name [true, false] [] (tACons (tNm 0) (tAOne (tNm 4)))) (tACons (tNm 5) (tACons (tNm 6) (tAOne (tNm 7))))))))))
def B__law_jobs_5 : TSp :=
  (sSeq (sIf (tAnd (tCmpT .Gt (tNm 4) (tK (.int 0))) (tCmpT .Eq (tCall φ__law_draw [true, false] [] (tACons (tNm 0) (tAOne (tK (.int 4))))) (tK (.int 0)))) B__law_jobs_1 sNil)
    B__law_jobs_4)
def B__law_jobs_6 : TSp :=
  (sSeq (sIf (tCmpT .Eq (tCall φ__law_draw [true, false] [] (tACons (tNm 0) (tAOne (tK (.int 5))))) (tK (.int 0))) (sSet 7 (tBin (opB .Add) (tK (.int 1)) (tCall φ__law_draw [true, false] [] (tACons (tNm 0) (tAOne (tK (.int 10000))))))) sNil)
    B__law_jobs_5)
def B__law_jobs_7 : TSp :=
  (sSeq (sSet 7 (tBin (opB .Add) (tK (.int 1)) (tCall φ__law_draw [true, false] [] (tACons (tNm 0) (tAOne (tK (.int 24)))))))
    B__law_jobs_6)
def B__law_jobs_8 : TSp :=
  (sSeq (sAsg (.tp [.nm 5, .nm 6]) (tCall φ__law_window [true, false] [] (tACons (tNm 0) (tAOne (tNm 2)))))
    B__law_jobs_7)
def B__law_jobs_9 : TSp :=
  (sSeq (sFor (iRng1 (tAOne (tCall φ__law_draw [true, false] [] (tACons (tNm 0) (tAOne (tBin (opB .Add) (tNm 1) (tK (.int 1)))))))) (.nm 4) B__law_jobs_8)
    (sRet (tCb cTuple (tAOne (tNm 3)))))
def B__law_jobs_10 : TSp :=
  (sSeq (sSet 3 (tLst tANil))
    B__law_jobs_9)
def T__law_jobs : TSp :=
  (sSeq (sSet 2 (tCmp .Eq (tCall φ__law_draw [true, false] [] (tACons (tNm 0) (tAOne (tK (.int 6))))) (tK (.int 0))))
    B__law_jobs_10)
def φ__law_jobs : Fn := fun cs R0 _ => ∃ (n m : Nat) (p : Pool), cs = [Wl p.d, Fz (.int (m : Nat))] ∧ m ≤ 20 ∧ p.Ok (n + 300) ∧ ∀ (js : List Job) (p' : Pool), JobsOk js → js.length ≤ m → p'.Ok n → R0 (Fz (.tup (js.map jbD))) [Wl p'.d, .no]
theorem JobsOk.snoc {js : List Job} {j : Job} {k : Nat} (h : JobsOk js) (hk : js.length = k) (k20 : k < 20) (hj : JobOk k j) : JobsOk (js ++ [j]) := by
  refine ⟨by rw [List.length_append]; simp; omega, fun i x e => ?_⟩
  rw [List.getElem?_append] at e
  by_cases hi : i < js.length
  · rw [if_pos hi] at e; exact h.2 i x e
  · rw [if_neg hi] at e
    have hl := (List.getElem?_eq_some_iff.mp e).1
    have h1 : i - js.length < 1 := by simpa using hl
    have : i = k := by omega
    subst this
    rw [hk, Nat.sub_self] at e
    simp at e; subst e; exact hj
section
variable {EE : Ep} {K : En → Prop} {n k : Nat} {m : Int} {wd : Bool} {js : List Job} {c d w : Int} {c8 : Ct} {p : Pool}
abbrev jobsE (p : Pool) (m : Int) (wd : Bool) (js : List Job) (k : Nat) (c d w : Int) (c8 : Ct) : En := [Wl p.d, Fz (.int m), Fz (.bl wd), Wl (js.map jbD), Fz (.int (k : Nat)), Fz (.int c), Fz (.int d), Fz (.int w), c8]
theorem jobs_app (hjs : JobsOk js) (hl : js.length = k) (k20 : k < 20) (c0 : 0 ≤ c) (cd : c < d) (dl : d ≤ 10000) (w1 : 1 ≤ w) (wl : w ≤ 10000) (hp : p.Ok (n + 2)) (hK : ∀ (p' : Pool) (j : Job), JobsOk (js ++ [j]) → p'.Ok n → K (jobsE p' m wd (js ++ [j]) k c d w c8)) :
    (sExp (tMu 3 fApp (tAOne (tTup (tACons (tCall φ__law_name [true, false] [] (tACons (tNm 0) (tAOne (tNm 4)))) (tACons (tNm 5) (tACons (tNm 6) (tAOne (tNm 7))))))))) (jobsE p m wd js k c d w c8) (EE.lp K) := by
  unfold jobsE
  walk_at "pm"
  refine ⟨n, k, p, rfl, k20, hp, fun s p' hs hp' => ?_⟩
  walk_at "pm"
  refine ⟨Nat.lt_of_lt_of_le (show (js.map jbD).length < 100 by rw [List.length_map]; omega) (line_small (by omega)), ?_⟩
  have := hK p' ⟨s, c, d, w⟩ (hjs.snoc hl k20 ⟨hs, c0, cd, dl, w1, wl⟩) hp'
  unfold jobsE at this
  rw [List.map_append] at this
  exact this
theorem jobs_at {i : Int} (hjs : JobsOk js) (h0 : 0 ≤ i) (h1 : i < (js.length : Nat)) : ∃ j : Job, atI (js.map jbD) i = some (jbD j) ∧ 0 ≤ j.c ∧ j.c < j.d ∧ j.d ≤ 10000 ∧ 1 ≤ j.w ∧ j.w ≤ 10000 := by
  have e : js[i.toNat]? = some js[i.toNat] := List.getElem?_eq_getElem (by omega)
  have q := hjs.2 _ _ e
  refine ⟨_, ?_, q.c0, q.cd, q.dl, q.w1, q.wl⟩
  have := atI_map (f := jbD) e
  rwa [show ((i.toNat : Nat) : Int) = i by omega] at this
theorem jobs4 (hjs : JobsOk js) (hl : js.length = k) (k20 : k < 20) (c0 : 0 ≤ c) (cd : c < d) (dl : d ≤ 10000) (w1 : 1 ≤ w) (wl : w ≤ 10000) (hp : p.Ok (n + 5)) (hK : ∀ (p' : Pool) (j : Job) (c d : Int) (c8 : Ct), JobsOk (js ++ [j]) → p'.Ok n → K (jobsE p' m wd (js ++ [j]) k c d w c8)) : B__law_jobs_4 (jobsE p m wd js k c d w c8) (EE.lp K) := by
  have app : ∀ (c d : Int) (c8 : Ct) (p : Pool), 0 ≤ c → c < d → d ≤ 10000 → p.Ok (n + 2) → (sExp (tMu 3 fApp (tAOne (tTup (tACons (tCall φ__law_name [true, false] [] (tACons (tNm 0) (tAOne (tNm 4)))) (tACons (tNm 5) (tACons (tNm 6) (tAOne (tNm 7))))))))) (jobsE p m wd js k c d w c8) (EE.lp K) := fun c d c8 p c0 cd dl hp => jobs_app hjs hl k20 c0 cd dl w1 wl hp fun p' j h1 h2 => hK p' j c d c8 h1 h2
  unfold jobsE at app ⊢
  unfold B__law_jobs_4
  walk_at "pm"
  by_cases hk : (0 : Int) < (k : Int)
  · rw [if_pos hk]
    refine draw_ok (n := n + 4) hp (by decide) (by decide) fun z p1 z1 z2 hp1 => ?_
    walk_at "pm"
    by_cases hz : z = 0
    · rw [if_pos hz]
      unfold B__law_jobs_3
      walk_at "pm"
      refine draw_ok (n := n + 3) hp1 (by omega) ((Bs.small (by omega) (by omega)).mono (by omega)) fun i p2 i1 i2 hp2 => ?_
      walk_at "pm"
      obtain ⟨j, ej, j1, j2, j3, j4, j5⟩ := jobs_at hjs i1 (by omega)
      rw [ej]
      unfold B__law_jobs_2 jbD
      walk_at "pm"
      by_cases hd : j.d < 9990
      · rw [if_pos hd]
        refine draw_ok (n := n + 2) hp2 (by decide) (by decide) fun y p3 y1 y2 hp3 => ?_
        refine Eq.mp ?_ (app j.d (j.d + 1 + y) (Fz (jbD j)) p3 (by omega) (by omega) (by omega) hp3)
        unfold jbD
        walk_at "pm"
      · rw [if_neg hd]
        refine Eq.mp ?_ (app c d (Fz (jbD j)) p2 c0 cd dl (hp2.mono (by omega)))
        unfold jbD
        walk_at "pm"
    · rw [if_neg hz]
      refine Eq.mp ?_ (app c d c8 p1 c0 cd dl (hp1.mono (by omega)))
      walk_at "pm"
  · rw [if_neg hk]
    refine Eq.mp ?_ (app c d c8 p c0 cd dl (hp.mono (by omega)))
    walk_at "pm"
theorem jobs5 (hjs : JobsOk js) (hl : js.length = k) (k20 : k < 20) (c0 : 0 ≤ c) (cd : c < d) (dl : d ≤ 10000) (w1 : 1 ≤ w) (wl : w ≤ 10000) (hp : p.Ok (n + 7)) (hK : ∀ (p' : Pool) (j : Job) (c d : Int) (c8 : Ct), JobsOk (js ++ [j]) → p'.Ok n → K (jobsE p' m wd (js ++ [j]) k c d w c8)) : B__law_jobs_5 (jobsE p m wd js k c d w c8) (EE.lp K) := by
  have app : ∀ (c d : Int) (c8 : Ct) (p : Pool), 0 ≤ c → c < d → d ≤ 10000 → p.Ok (n + 5) → B__law_jobs_4 (jobsE p m wd js k c d w c8) (EE.lp K) := fun c d c8 p c0 cd dl hp => jobs4 hjs hl k20 c0 cd dl w1 wl hp hK
  unfold jobsE at app ⊢
  unfold B__law_jobs_5
  walk_at "pm"
  by_cases hk : (0 : Int) < (k : Int)
  · rw [if_pos hk]
    refine draw_ok (n := n + 6) hp (by decide) (by decide) fun z p1 z1 z2 hp1 => ?_
    walk_at "pm"
    by_cases hz : z = 0
    · rw [if_pos hz]
      unfold B__law_jobs_1
      walk_at "pm"
      refine draw_ok (n := n + 5) hp1 (by omega) ((Bs.small (by omega) (by omega)).mono (by omega)) fun i p2 i1 i2 hp2 => ?_
      walk_at "pm"
      obtain ⟨j, ej, j1, j2, j3, j4, j5⟩ := jobs_at hjs i1 (by omega)
      rw [ej]
      unfold jbD
      walk_at "pm"
      exact app j.c j.d _ p2 j1 j2 j3 hp2
    · rw [if_neg hz]
      exact app c d c8 p1 c0 cd dl (hp1.mono (by omega))
  · rw [if_neg hk]
    exact app c d c8 p c0 cd dl (hp.mono (by omega))
end
theorem sp__law_jobs (cs : List Ct) (R0 : Ct → List Ct → Prop) (E0 : Exn → List Ct → Prop) : φ__law_jobs cs R0 E0 → fnOf 7 [0] T__law_jobs cs R0 E0 := by
  rintro ⟨n, m, p0, rfl, hm, hp, h⟩
  rw [fnOf_eq]
  refine ⟨ow0 rfl, ?_⟩
  unfold T__law_jobs
  walk_at "pm"
  refine draw_ok (n := n + 299) hp (by decide) (by decide) fun z p1 z1 z2 hp1 => ?_
  walk_at "pm"
  unfold B__law_jobs_10 B__law_jobs_9
  walk_at "pm"
  refine draw_ok (n := n + 298) hp1 (by omega) ((Bs.small (by omega) (by omega)).mono (by omega)) fun q p2 q1 q2 hp2 => ?_
  walk_at "pm"
  refine ⟨by omega, ?_⟩
  generalize decide (z = 0) = wd
  refine for_rng (fun k ρ => ∃ (p : Pool) (js : List Job) (c4 c5 c6 c7 c8 : Ct), ρ = [Wl p.d, Fz (.int (m : Nat)), Fz (.bl wd), Wl (js.map jbD), c4, c5, c6, c7, c8] ∧ JobsOk js ∧ js.length = k ∧ p.Ok (n + 298 - 14 * k)) ⟨p2, [], _, _, _, _, _, rfl, ⟨by simp, fun k j e => by simp at e⟩, rfl, hp2⟩ ?_ ?_
  · rintro k ρ K hk ⟨p, js, c4, c5, c6, c7, c8, rfl, hjs, hl, hp⟩ hK
    have hk20 : k < 20 := by omega
    unfold B__law_jobs_8
    walk_at "pm"
    refine ⟨n + 298 - 14 * k - 2, wd, p, rfl, hp.mono (by omega), fun c d p3 c0 cd dl hp3 => ?_⟩
    unfold B__law_jobs_7
    walk_at "pm"
    refine draw_ok (n := n + 298 - 14 * k - 3) (hp3.mono (by omega)) (by decide) (by decide) fun w p4 w1 w2 hp4 => ?_
    rw [Int.zero_add]
    unfold B__law_jobs_6
    walk_at "pm"
    refine draw_ok (n := n + 298 - 14 * k - 4) (hp4.mono (by omega)) (by decide) (by decide) fun y p5 y1 y2 hp5 => ?_
    walk_at "pm"
    have nx : ∀ (w : Int) (p : Pool), 1 ≤ w → w ≤ 10000 → p.Ok (n + 298 - 14 * k - 5) → B__law_jobs_5 (jobsE p m wd js k c d w c8) (((fnE [Wl p0.d, Fz (.int (m : Nat))] R0 E0).sq (sRet (tCb cTuple (tAOne (tNm 3))))).lp K) := fun w p w1 wl hp => jobs5 (n := n + 298 - 14 * (k + 1)) hjs hl hk20 c0 cd dl w1 wl (hp.mono (by omega)) fun p' j c d c8 h1 h2 => hK _ ⟨p', js ++ [j], _, _, _, _, _, rfl, h1, by simp [hl], h2⟩
    by_cases hy : y = 0
    · rw [if_pos hy]
      refine draw_ok (n := n + 298 - 14 * k - 5) (hp5.mono (by omega)) (by decide) (by decide) fun x p6 x1 x2 hp6 => ?_
      walk_at "pm"
      exact nx _ p6 (by omega) (by omega) hp6
    · rw [if_neg hy]
      exact nx _ p5 (by omega) (by omega) (hp5.mono (by omega))
  · rintro ρ ⟨p, js, c4, c5, c6, c7, c8, rfl, hjs, hl, hp⟩
    walk_at "pm"
    exact h js p hjs (by omega) (hp.mono (by omega))
def B__law_points_1 : TSp :=
  (sIf (tAnd (tCmpT .Gt (tBin (opB .Sub) (tIx (tNm 3) (tK (.int 2))) (tIx (tNm 3) (tK (.int 1)))) (tK (.int 1))) (tCmpT .Eq (tCall φ__law_draw [true, false] [] (tACons (tNm 0) (tAOne (tK (.int 2))))) (tK (.int 0)))) (sExp (tMu 2 fApp (tAOne (tBin (opB .Add) (tBin (opB .Add) (tIx (tNm 3) (tK (.int 1))) (tK (.int 1))) (tCall φ__law_draw [true, false] [] (tACons (tNm 0) (tAOne (tBin (opB .Sub) (tBin (opB .Sub) (tIx (tNm 3) (tK (.int 2))) (tIx (tNm 3) (tK (.int 1)))) (tK (.int 1)))))))))) sNil)
def B__law_points_2 : TSp :=
  (sSeq (sExp (tMu 2 fExt (tAOne (tLst (tACons (tIx (tNm 3) (tK (.int 1))) (tAOne (tIx (tNm 3) (tK (.int 2)))))))))
    B__law_points_1)
def B__law_points_3 : TSp :=
  (sSeq (sFor (iAny (tNm 1)) (.nm 3) B__law_points_2)
    (sRet (tCb cSort (tAOne (tLc' (iRng1 (tAOne (tCb (cD1 fLen) (tAOne (tNm 2))))) (.nm 4) (tCmpT .NotIn (tIx (tNm 2) (tNmC 4)) (tSlice (tNm 2) tONone (tOSome (tNmC 4)))) (tIx (tNm 2) (tNmC 4)) [4])))))
def T__law_points : TSp :=
  (sSeq (sSet 2 (tLst tANil))
    B__law_points_3)
/-! the points: comings, due times and drawn times, each once, in order -/
structure PtsOk (js : List Job) (P : List Int) : Prop where
  srt : P.Pairwise (· < ·)
  rng : ∀ x ∈ P, 0 ≤ x ∧ x ≤ 10000
  job : ∀ j ∈ js, j.c ∈ P ∧ j.d ∈ P
  len : P.length ≤ 3 * js.length
  some_ : ∀ x ∈ P, ∃ j ∈ js, j.c ≤ x ∧ x ≤ j.d
def nubI : List Int → List Int → List Int
  | _, [] => []
  | seen, x :: l => if x ∈ seen then nubI (seen ++ [x]) l else x :: nubI (seen ++ [x]) l
theorem nubI_mem : ∀ {l seen : List Int} {x : Int}, x ∈ nubI seen l ↔ x ∈ l ∧ x ∉ seen
  | [], _, _ => by simp [nubI]
  | a :: l, seen, x => by
    unfold nubI
    by_cases h : a ∈ seen
    · rw [if_pos h, nubI_mem, List.mem_append, List.mem_singleton, List.mem_cons]
      constructor
      · rintro ⟨h1, h2⟩; exact ⟨.inr h1, fun z => h2 (.inl z)⟩
      · rintro ⟨h1, h2⟩
        rcases h1 with rfl | h1
        · exact absurd h h2
        · refine ⟨h1, ?_⟩
          rintro (z | rfl)
          · exact h2 z
          · exact h2 h
    · rw [if_neg h, List.mem_cons, nubI_mem, List.mem_append, List.mem_singleton, List.mem_cons]
      constructor
      · rintro (rfl | ⟨h1, h2⟩)
        · exact ⟨.inl rfl, h⟩
        · exact ⟨.inr h1, fun z => h2 (.inl z)⟩
      · rintro ⟨h1, h2⟩
        by_cases hx : x = a
        · exact .inl hx
        · rcases h1 with h1 | h1
          · exact absurd h1 hx
          · refine .inr ⟨h1, ?_⟩
            rintro (z | z)
            · exact h2 z
            · exact hx z
theorem nubI_nodup : ∀ {l seen : List Int}, (nubI seen l).Nodup
  | [], _ => by simp [nubI]
  | a :: l, seen => by
    unfold nubI
    by_cases h : a ∈ seen
    · rw [if_pos h]; exact nubI_nodup
    · rw [if_neg h, List.nodup_cons]
      exact ⟨fun z => (nubI_mem.mp z).2 (by simp), nubI_nodup⟩
theorem nubI_len : ∀ {l seen : List Int}, (nubI seen l).length ≤ l.length
  | [], _ => Nat.le_refl _
  | a :: l, seen => by
    unfold nubI
    have := nubI_len (l := l) (seen := seen ++ [a])
    split <;> simp <;> omega
theorem srt_lt {l : List Int} (h : l.Nodup) : (srt l).Pairwise (· < ·) := by
  have h1 := srt_sorted l
  have h2 : (srt l).Nodup := (srt_perm l).nodup_iff.mpr h
  exact (h1.and h2).imp fun {a b} h => by have := h.1; have := h.2; omega
theorem ints_map' {α : Type} {f : α → Int} (l : List α) : ints? (l.map fun x => D.int (f x)) = some (l.map f) := by
  have := ints_map (l.map f)
  rwa [List.map_map] at this
theorem any_int {x : Int} : ∀ l : List Int, ((l.map D.int).any fun z => eqD z (.int x)) = decide (x ∈ l)
  | [] => by simp
  | a :: l => by
    rw [List.map_cons, List.any_cons, any_int l]
    have e : eqD (.int a) (.int x) = (a == x) := by unfold eqD D.py; rfl
    rw [e]
    by_cases h : a = x
    · subst h; simp
    · have h' : ¬ x = a := fun z => h z.symm
      simp [h, h']
def φ__law_points : Fn := fun cs R0 _ => ∃ (n : Nat) (p : Pool) (js : List Job), cs = [Wl p.d, Fz (.tup (js.map jbD))] ∧ JobsOk js ∧ p.Ok (n + 40) ∧ ∀ (P : List Int) (p' : Pool), PtsOk js P → p'.Ok n → R0 (Wl (P.map .int)) [Wl p'.d, .no]
theorem shp_ints {l : List Int} : shp (.lst (l.map D.int)) := (Shn.lst (n := 0) fun x hx => by
  obtain ⟨q, _, rfl⟩ := List.mem_map.mp hx
  exact Shn.int).shp (by omega)
theorem sp__law_points (cs : List Ct) (R0 : Ct → List Ct → Prop) (E0 : Exn → List Ct → Prop) : φ__law_points cs R0 E0 → fnOf 3 [0] T__law_points cs R0 E0 := by
  rintro ⟨n, p0, js, rfl, hjs, hp, h⟩
  rw [fnOf_eq]
  refine ⟨ow0 rfl, ?_⟩
  have h20 := hjs.1
  unfold T__law_points B__law_points_3
  walk_at "pm"
  refine for_ind (fun rest ρ => ∃ (p : Pool) (pre : List Job) (Q : List Int) (c3 : Ct), ρ = [Wl p.d, Fz (.tup (js.map jbD)), Wl (Q.map .int), c3, .no] ∧ js = pre ++ rest ∧ (∀ j ∈ pre, j.c ∈ Q ∧ j.d ∈ Q) ∧ (∀ x ∈ Q, ∃ j ∈ js, j.c ≤ x ∧ x ≤ j.d) ∧ Q.length ≤ 3 * pre.length ∧ p.Ok (n + 40 - 2 * pre.length)) ?_ ?_ js _ ⟨p0, [], [], _, rfl, rfl, by simp, by simp, by simp, hp⟩
  · rintro j rest ρ K ⟨p, pre, Q, c3, rfl, hpre, hQ1, hQ2, hQ3, hp⟩ hK
    have hj : j ∈ js := by rw [hpre]; simp
    obtain ⟨k, hk, ek⟩ := List.getElem_of_mem hj
    have oj := hjs.2 k j (by rw [List.getElem?_eq_getElem hk, ek])
    have hlen : pre.length < 20 := by
      have := congrArg List.length hpre
      rw [List.length_append, List.length_cons] at this; omega
    unfold B__law_points_2 B__law_points_1 jbD
    walk_at "pm"
    have eQ : Q.map D.int ++ [D.int j.c, D.int j.d] = (Q ++ [j.c, j.d]).map D.int := by rw [List.map_append]; rfl
    rw [eQ]
    refine ⟨line_small (by rw [List.length_map]; simp; omega), ?_⟩
    have oc := oj.cd
    have nx : ∀ (p : Pool) (Q' : List Int), (∀ x ∈ Q', j.c ≤ x ∧ x ≤ j.d) → Q'.length ≤ 1 → p.Ok (n + 40 - 2 * (pre.length + 1)) → K [Wl p.d, Fz (.tup (js.map fun j => .tup [.str j.nm, .int j.c, .int j.d, .int j.w])), Wl ((Q ++ [j.c, j.d] ++ Q').map .int), Fz (.tup [.str j.nm, .int j.c, .int j.d, .int j.w]), .no] := fun p Q' h1 h2 hp => by
      refine hK _ ⟨p, pre ++ [j], _, _, rfl, by rw [hpre, List.append_assoc]; rfl, fun x hx => ?_, fun x hx => ?_, ?_, by rw [List.length_append]; exact hp⟩
      · rcases List.mem_append.mp hx with hx | hx
        · have := hQ1 x hx
          simp [this.1, this.2]
        · rw [List.mem_singleton] at hx; subst hx; simp
      · rcases List.mem_append.mp hx with hx | hx
        · rcases List.mem_append.mp hx with hx | hx
          · exact hQ2 x hx
          · refine ⟨j, hj, ?_⟩
            simp only [List.mem_cons, List.not_mem_nil, or_false] at hx
            rcases hx with rfl | rfl <;> omega
        · exact ⟨j, hj, h1 x hx⟩
      · simp only [List.length_append, List.length_cons, List.length_nil]; omega
    by_cases h1 : 1 < j.d - j.c
    · rw [if_pos h1]
      refine draw_ok (n := n + 40 - 2 * pre.length - 1) (hp.mono (by omega)) (by decide) (by decide) fun z p1 z1 z2 hp1 => ?_
      walk_at "pm"
      by_cases hz : z = 0
      · rw [if_pos hz]
        have ocd := oj.c0
        have odl := oj.dl
        refine draw_ok (n := n + 40 - 2 * pre.length - 2) (hp1.mono (by omega)) (by omega) ((Bs.small (by omega) (by omega)).mono (by omega)) fun y p2 y1 y2 hp2 => ?_
        walk_at "pm"
        refine ⟨Nat.lt_of_lt_of_le (show ((Q ++ [j.c, j.d]).map D.int).length < 100 by rw [List.length_map]; simp; omega) (line_small (by omega)), ?_⟩
        have := nx p2 [j.c + 1 + y] (fun x hx => by rw [List.mem_singleton] at hx; omega) (by simp) (hp2.mono (by omega))
        rw [List.map_append] at this
        exact this
      · rw [if_neg hz]
        have := nx p1 [] (by simp) (by simp) (hp1.mono (by omega))
        rw [List.append_nil] at this
        exact this
    · rw [if_neg h1]
      have := nx p [] (by simp) (by simp) (hp.mono (by omega))
      rw [List.append_nil] at this
      exact this
  · rintro ρ ⟨p, pre, Q, c3, rfl, hpre, hQ1, hQ2, hQ3, hp⟩
    rw [List.append_nil] at hpre
    subst hpre
    walk_at "pm"
    rw [List.length_map]
    refine ⟨by omega, ?_⟩
    rw [Int.toNat_natCast]
    refine lc_rng (fun k acc ρ => ∃ A : List Int, acc = A.map .int ∧ A ++ nubI (Q.take k) (Q.drop k) = nubI [] Q ∧ ρ = [Wl p.d, Fz (.tup (js.map jbD)), Wl (Q.map .int), c3, .no] ∧ A.length ≤ k) ⟨[], rfl, rfl, rfl, by simp⟩ ?_ ?_
    · rintro k acc ρ K hk ⟨A, rfl, hA, rfl, hAl⟩ hK
      walk_at "pm"
      have ek : Q[k]? = some Q[k] := List.getElem?_eq_getElem hk
      rw [List.drop_eq_getElem_cons hk] at hA
      have et : Q.take (k + 1) = Q.take k ++ [Q[k]] := by rw [List.take_succ, ek]; rfl
      generalize Q[k] = x at ek hA et
      rw [Int.zero_add, atI_map ek]
      walk_at "pm"
      rw [cut_take, ← List.map_take]
      refine ⟨shp_ints, ?_⟩
      rw [any_int]
      have hA' : A ++ (if x ∈ Q.take k then nubI (Q.take k ++ [x]) (Q.drop (k + 1)) else x :: nubI (Q.take k ++ [x]) (Q.drop (k + 1))) = nubI [] Q := hA
      by_cases hx : x ∈ Q.take k
      · rw [if_neg (by simpa using hx)]
        rw [if_pos hx] at hA'
        exact hK _ _ ⟨A, rfl, by rw [et]; exact hA', rfl, by omega⟩
      · rw [if_pos (by simpa using hx)]
        rw [if_neg hx] at hA'
        refine ⟨Nat.lt_of_lt_of_le (show (A.map D.int).length < 100 by rw [List.length_map]; omega) (line_small (by omega)), ?_⟩
        refine hK _ _ ⟨A ++ [x], by rw [List.map_append]; rfl, by rw [et, List.append_assoc]; exact hA', rfl, by rw [List.length_append]; simp; omega⟩
    · rintro acc ρ ⟨A, rfl, hA, rfl, hAl⟩
      walk_at "pm"
      rw [List.drop_length] at hA
      have hA : A = nubI [] Q := by rw [← hA]; simp [nubI]
      rw [ints_map]
      walk_at "pm"
      refine h (srt A) p ⟨?_, fun x hx => ?_, fun j hj => ?_, ?_, fun x hx => ?_⟩ (hp.mono (by omega))
      · rw [hA]; exact srt_lt nubI_nodup
      · rw [hA] at hx
        obtain ⟨j, hj, h1, h2⟩ := hQ2 x (nubI_mem.mp ((srt_perm _).mem_iff.mp hx)).1
        obtain ⟨k, hk, ek⟩ := List.getElem_of_mem hj
        have oj := hjs.2 k j (by rw [List.getElem?_eq_getElem hk, ek])
        have := oj.c0
        have := oj.dl
        omega
      · have := hQ1 j hj
        rw [hA]
        exact ⟨(srt_perm _).mem_iff.mpr (nubI_mem.mpr ⟨this.1, by simp⟩), (srt_perm _).mem_iff.mpr (nubI_mem.mpr ⟨this.2, by simp⟩)⟩
      · rw [(srt_perm A).length_eq, hA]
        have := nubI_len (l := Q) (seen := [])
        omega
      · rw [hA] at hx
        exact hQ2 x (nubI_mem.mp ((srt_perm _).mem_iff.mp hx)).1
end Pm

namespace PySem
namespace ExM
open PySem.W PySem.Calls PyProof.Rows PySem.HandSPX
/-- what the written part says of an own error's class, at C, and of its __init__, at fI (self, fld): super().__init__(msg); self.fld = fld -/
structure Txt (prog : Program) (K : Frag) (C fI : Addr) (fld : Str) : Prop where
  cls : ∃ nm q N bs bm sn sub ab col dd k0 k1 k2 k3 k5, K.lookup C = some (excClassObj nm q C N bs bm true sn sub ab col dd k0 k1 k2 k3 k5 "ValueError.__new__") ∧ refsVE bm = true
  ei : excInitIn K C [.type "ValueError", .type "Exception", .type "BaseException", .type "object"] "ValueError.__new__" = true
  sa : findIn K (.ref C) "__setattr__" = some (some (.builtin "object.__setattr__"))
  noN : findIn K (.ref C) fld = some none
  iC : findIn K (.ref C) "__init__" = some (some (.ref fI))
  tC : typeIn K (.ref fI) = some (.type "function")
  kC : keepIn K (.ref C) = true
  exC : subIn K (.ref C) (.type "BaseException") = some true
  veC : subIn K (.ref C) (.type "ValueError") = some true
  tyC : typeIn K (.ref C) = some (.type "type")
  own : mroIn K C (.ref C) = some true
  op : nsIn K cStatics "thirdparty.any" = some none
  sup : ks_superIn K C C "__init__" = some (some (.builtin "ValueError.__init__"))
  nsup : nsIn K mainGlobals "super" = some none
  top : (prog.main.scope.names.lookup ("super" : Str)).isSome = false
  fn : ∃ (oc : Value) (od : Option Addr) (qual : Str) (params : Arguments) (body : List Stmt) (scope : Scope) (doc pm kV : Value) (an : Option Addr) (cda cc : Addr) (ct : Value) (osl : Array (Option Value)) (ar : Arg)
      (msg : Str) (mj : Nat) (p0 p1 pa pm' pc pe q1 q2 q3 q4 : Pos) (ccl : Value) (cdd : Option Addr) (vs : Array Value) (ccs : Array (Option Value)) (file : Str) (tf : Tok) (cl : Value) (cld : Option Addr) (csl : Array (Option Value)),
    K.lookup fI = some ⟨oc, od, .func (ksFn "__init__" qual params body scope .none kV doc pm an (.ref cda) ct cc), osl⟩ ∧ codeIn K (.ref cda) qual = true ∧
    body = [.Expr (.Call (.Attribute (.Call (.Name "super" p0) [] [] p1) "__init__" pa) [.Constant (.str msg) mj pm'] [] pc) pe, .Assign [.Attribute (.Name "self" q1) fld q2] (.Name fld q3) q4] ∧
    (params.posonlyargs ++ params.args).head? = some ar ∧ ar.arg = "self" ∧
    scope.names.lookup ("super" : Str) = some .globalImplicit ∧ scope.names.lookup ("__class__" : Str) = some .free ∧ scope.names.lookup ("self" : Str) = some .local ∧ scope.names.lookup fld = some .local ∧
    scope.kind = .function ∧ scope.isCoroutine = false ∧ scope.isGenerator = false ∧ (∀ x ∈ scope.names, x.2 ≠ .cell) ∧
    (∀ (s : Shared) (x v : Value), BindsTo s (ksFn "__init__" qual params body scope .none kV doc pm an (.ref cda) ct cc) ⟨[x, v], []⟩ [("self", x), (fld, v)]) ∧
    K.lookup cda = some ⟨ccl, cdd, .fields vs, ccs⟩ ∧ vs[2]? = some (.str file tf) ∧ ((prog.main.file : Str) == file) = true ∧ K.lookup cc = some ⟨cl, cld, .cell (some (.ref C)), csl⟩ ∧
    fld ≠ "self" ∧ (fld == ("__debug__" : Str)) = false ∧
    ∀ L : Addr, ∃ pl : Sem Bool, interactive (ksEnv qual scope L fI (.ref cda) cc) = false ∧ swapsWith (.Call (.Attribute (.Call (.Name "super" p0) [] [] p1) "__init__" pa) [.Constant (.str msg) mj pm'] [] pc) none pe.line (ksEnv qual scope L fI (.ref cda) cc) = pure false ∧
      swapsWith (.Name fld q3) (some (.Attribute (.Name "self" q1) fld q2)) q4.line (ksEnv qual scope L fI (.ref cda) cc) = pure false ∧
      eval (.Call (.Attribute (.Call (.Name "super" p0) [] [] p1) "__init__" pa) [.Constant (.str msg) mj pm'] [] pc) (ksEnv qual scope L fI (.ref cda) cc) = (do
        let ov ← attributeBase (.Call (.Name "super" p0) [] [] p1) "__init__" (ksEnv qual scope L fI (.ref cda) cc) (eval (.Call (.Name "super" p0) [] [] p1) (ksEnv qual scope L fI (.ref cda) cc))
        standAt pa.atName
        let (f, first) ← holding [ov] (getMethod ov "__init__" pl)
        callWith pc f first (backTo pc (starEach [.Constant (.str msg) mj pm'] (ksEnv qual scope L fI (.ref cda) cc))) []) ∧
      starEach [.Constant (.str msg) mj pm'] (ksEnv qual scope L fI (.ref cda) cc) = (false, eval (.Constant (.str msg) mj pm') (ksEnv qual scope L fI (.ref cda) cc)) :: starEach [] (ksEnv qual scope L fI (.ref cda) cc)
theorem lookup_rev2 {a b y : Str} {u v : Value} : ([(a, u), (b, v)] : List (Str × Value)).reverse.lookup y = if y = b then some v else if y = a then some u else none := by
  show List.lookup y [(b, v), (a, u)] = _
  unfold List.lookup
  by_cases h : y = b
  · rw [if_pos h, h]; simp
  · have : (y == b) = false := by simpa using h
    rw [if_neg h, this]
    unfold List.lookup
    by_cases h2 : y = a
    · rw [if_pos h2, h2]; simp
    · have : (y == a) = false := by simpa using h2
      rw [if_neg h2, this]; rfl
theorem one_size (v : Value) : [v].length ≤ sizeLine := by
  rw [sizeLine_eq]
  exact (by decide : 1 ≤ 16777216)
/-- what __init__ leaves of a fresh exception at x -/
structure InitEnd (h h' : Heap) (x C dx : Addr) (fld : Str) (v : Value) : Prop where
  keep : ∀ b o, b ≠ x → h.get? b = some o → h'.get? b = some o
  obj : ∃ t1, h'.get? x = some { cls := .ref C, dict := some dx, data := .fields #[.ref t1, .none, .none, .none, .bool false, .none] }
  dbig : h.objs.size ≤ dx
  dne : dx ≠ x
  ns : h'.Ns1 dx (fun y => if y = fld then some v else none)
/-- a made error -/
structure Made (h h' : Heap) (e C d : Addr) (fld : Str) (v : Value) : Prop where
  keep : ∀ b o, h.get? b = some o → h'.get? b = some o
  new : h.objs.size ≤ e
  obj : ∃ oe vs, h'.get? e = some oe ∧ oe.cls = .ref C ∧ oe.dict = some d ∧ oe.data = .fields vs ∧ vs[1]? = some .none ∧ vs[2]? = some .none
  dbig : h.objs.size ≤ d
  dne : d ≠ e
  ns : h'.Ns1 d (fun y => if y = fld then some v else none)
section
variable {prog : Program} {w : World} {A : Around} {E : Value → Shared → Prop} {R : Result → Shared → Prop} {s : Shared} {K : Frag} {mg mb : Str → Option Value} {C fI : Addr} {fld : Str}
theorem init (T : Txt prog K C fI fld) {x t0 : Addr} {v : Value} (X : K.In s.heap) (hg : s.heap.Ns mainGlobals mg) (hgm : mg "super" = none) (hb : s.heap.Ns builtinsNs mb) (hbm : mb "super" = some (.type "super")) (hlim : s.heap.NoLimit) (hx : s.heap.get? x = some (excO C t0)) (hnx : K.lookup x = none) (hroom : A.depth < recursionLimit)
    (hq : ∀ h' tk dx, InitEnd s.heap h' x C dx fld v → R (.ok (.ret .none)) { s with heap := h', toks := tk }) :
    codeAny (model prog w) A (.call (.ref fI) ⟨[.ref x, v], []⟩) R s := by
  obtain ⟨oc, od, qual, params, body, scope, doc, pm, kV, an, cda, cc, ct, osl, ar, msg, mj, p0, p1, pa, pm', pc, pe, q1, q2, q3, q4, ccl, cdd, vs, ccs, file, tf, cl, cld, csl, ho, hcd, rfl, hp, har, hks, hkc, hka, hkf, hk, hco, hgen, hcell, hbind, hcode, hvs, hfile, hcc, hfs, hfd, hev⟩ := T.fn
  obtain ⟨nm, q, N, bs, bm, sn, sub, ab, col, dd, k0, k1, k2, k3, k5, hC, hbmr⟩ := T.cls
  have hcl : clsIn K C = some { name := nm, bases := bs, mro := .ref C :: bm, ns := N, qualname := q, hasDict := true, slotNames := sn, subclasses := sub, abstract := ab, collection := col, hasDel := false } := by unfold clsIn; rw [hC] <;> rfl
  have hfs' : ¬ (("self" : Str) = fld) := fun z => hfs z.symm
  refine ks_codeAny_call_defAt (binds := [("self", .ref x), (fld, v)]) hroom (X _ _ ho) rfl hlim (codeRec_of X hcd) rfl (hbind _ _ _) hcell (fun y hy => ?_) (fun h₁ hns hk₁ => ?_) hco hgen hk
  · simp only [List.mem_cons, List.not_mem_nil, or_false] at hy
    rcases hy with rfl | rfl
    · exact hka
    · exact hkf
  have hlt : ∀ {b : Addr} {o : Obj}, s.heap.get? b = some o → b ≠ s.heap.objs.size := fun e => Nat.ne_of_lt (Heap.lt_size e)
  have X₁ : K.In h₁ := X.keeps hk₁
  have hx₁ := hk₁ _ _ hx
  have hC₁ : h₁.get? C = some _ := X₁ _ _ hC
  have gsup : h₁.Ns mainGlobals mg := hg.keeps hk₁
  have bsup : h₁.Ns builtinsNs mb := hb.keeps hk₁
  have hL : s.heap.objs.size < h₁.objs.size := hns.lt
  have vSelf : ([(("self" : Str), Value.ref x), (fld, v)] : List (Str × Value)).reverse.lookup ("self" : Str) = some (Value.ref x) := by
    rw [lookup_rev2]
    rw [if_neg hfs', if_pos rfl]
  have vFld : ([(("self" : Str), Value.ref x), (fld, v)] : List (Str × Value)).reverse.lookup fld = some v := by
    rw [lookup_rev2, if_pos rfl]
  have I₁ : InstAt h₁ x (excO C t0) C none := ⟨hx₁, rfl, rfl, trivial⟩
  obtain ⟨pl, v1, v2, v3, v4, v5⟩ := hev s.heap.objs.size
  generalize hcal : callEnv (ksFn "__init__" qual params [.Expr (.Call (.Attribute (.Call (.Name "super" p0) [] [] p1) "__init__" pa) [.Constant (.str msg) mj pm'] [] pc) pe, .Assign [.Attribute (.Name "self" q1) fld q2] (.Name fld q3) q4] scope .none kV doc pm an (.ref cda) ct cc) s.heap.objs.size fI = env
  have henv : env = ksEnv qual scope s.heap.objs.size fI (.ref cda) cc := hcal.symm
  rw [← henv] at v1 v2 v3 v4 v5
  have hks' : env.kindOf "super" = some .globalImplicit := by rw [henv]; exact hks
  have hkc' : env.kindOf "__class__" = some .free := by rw [henv]; exact hkc
  have hka' : env.kindOf "self" = some .local := by rw [henv]; exact hka
  have hkf' : env.kindOf fld = some .local := by rw [henv]; exact hkf
  have hk' : env.scope.kind = .function := by rw [henv]; exact hk
  have hns' : h₁.Ns env.locals (fun y => ([(("self" : Str), Value.ref x), (fld, v)] : List (Str × Value)).reverse.lookup y) := by rw [henv]; exact hns
  refine ks_wpAt_execs_cons (ks_wpAt_Expr_any (hi := v1) (hs := v2) (ks_wpAt_MethodCall (pl := pl) (he := v4) (ks_wpAt_super_base (env := env) hks' hkc' (by decide +kernel) (by rw [henv]) (X₁ _ _ ho) rfl hp (by rw [henv]) (X₁ _ _ hcode) rfl hvs hfile T.top ?_)))
  refine ks_loadName_global hk' hks' (loadGlobal_builtin (env := env) (by rw [henv]; exact gsup) hgm (by rw [henv]; exact bsup) hbm ⟨rfl, ?_⟩)
  refine wpAny_loadName_free hk' hkc' (by rw [henv]; rfl) ⟨_, X₁ _ _ hcc, rfl⟩ ?_
  rw [har]
  refine wpAny_loadName_local hk' hka' hns' vSelf ?_
  refine ks_wpAny_isType_cls hC₁ rfl ⟨rfl, ?_⟩
  refine ks_wpAny_call_super hC₁ rfl hx₁ rfl (fun c e => by cases e) (looks_mroIn X₁ T.own) (fun h₂ hso k₂ => ?_)
  have X₂ : K.In h₂ := X₁.keeps k₂
  have hx₂ := k₂ _ _ hx₁
  have I₂ : InstAt h₂ x (excO C t0) C none := ⟨hx₂, rfl, rfl, trivial⟩
  have hxC : x ≠ C := fun z => by rw [z, hC] at hnx; cases hnx
  have hin : Looks (model prog w) h₂ (isInstance (.ref x) (.type "ValueError")) true := I₂.type.andThen (looks_subIn X₂ T.veC)
  have hsu := T.sup
  unfold ks_superIn at hsu
  rw [hcl, Option.bind_some] at hsu
  refine kxs_getMethod kxs_ValueError hso (looks_opaque X₂ T.op) (l₀ := .ref C :: bm) (fun A Q E s k q => wpAny_bind ((looks_clsIn X₂ hcl) A _ E s k (wpAny_pure q))) rfl X₂ hsu hin hxC (by decide +kernel) ?_
  rw [v5]
  have hu₃ : (h₂.push (kxs_mw "ValueError.__init__" x)).get? h₂.objs.size = some (kxs_mw "ValueError.__init__" x) := Heap.get?_push_at rfl rfl
  have k₃ : ∀ b o, h₂.get? b = some o → (h₂.push (kxs_mw "ValueError.__init__" x)).get? b = some o := fun b o e => Heap.get?_push_of_some _ e
  generalize h₂.push (kxs_mw "ValueError.__init__" x) = h₃ at hu₃ k₃
  generalize hu : h₂.objs.size = u at hu₃
  have hx₃ := k₃ _ _ hx₂
  have X₃ : K.In h₃ := X₂.keeps k₃
  refine kxs_callWith (i := "ValueError.__init__") (x := x) (by rfl) (evalArgs_plain ?_)
  refine spliced_cons (Constant_str (k := mj) (pos := pm') (spliced_nil ⟨hu₃, ?_⟩))
  show wpAny _ _ (call (.ref u) [.str msg _]) _ _ _
  obtain ⟨nm', N', qn', bs', bm', hdct', sn', sub', ab', col', dd', k0', k1', k2', k3', k5', hC', hT'⟩ := excInit_of X₃ T.ei
  have FB := F.excBase_ValueError
  refine wpAny_call (codeAny_of_tree ?_)
  show wpAny _ _ (callAny (.ref u) ⟨[.str msg _], []⟩) _ _ _
  simp only [callAny]
  refine wpAny_bind (wpAny_load hu₃ ?_)
  simp only [kxs_mw, show (Value.type "method-wrapper" == Value.type "method" || Value.type "method-wrapper" == Value.type "builtin_function_or_method" || Value.type "method-wrapper" == Value.type "method-wrapper") = true by decide, if_true]
  refine KFB.if_so (by decide) ?_
  refine wpAny_bind (check_bound_init FB.toExcCallFacts hC' hx₃ rfl ?_)
  refine wpAny_bind (wpAny_pure (wpAny_pure ?_))
  refine ⟨plainId_quiet FB.init.plain _, codeAny_builtin FB.initEntry ?_⟩
  refine exc_init_tree (cls := .ref C) (t0 := t0) (dv := none) (c2 := .none) (c3 := .none) (b4 := .bool false) hx₃ (one_size _) (fun h₄ k₄ hx₄ _ => ?_)
  show wpAt _ _ _ (execs _ _) _ _ _
  have k₀₃ : ∀ b o, s.heap.get? b = some o → h₃.get? b = some o := fun b o e => k₃ _ _ (k₂ _ _ (hk₁ _ _ e))
  have hLx : s.heap.objs.size ≠ x := Nat.ne_of_gt (Heap.lt_size hx)
  obtain ⟨oL, esL, epL, hoL, hrL⟩ := hns'
  have hloc : env.locals = s.heap.objs.size := by rw [henv]
  have hns₄ : h₄.Ns env.locals (fun y => ([(("self" : Str), Value.ref x), (fld, v)] : List (Str × Value)).reverse.lookup y) := ⟨oL, esL, epL, k₄ _ _ (fun z => hLx (hloc.symm.trans z)) (k₃ _ _ (k₂ _ _ hoL)), hrL⟩
  have X₄ : K.In h₄ := fun a o e => k₄ a o (fun z => by rw [z, hnx] at e; cases e) (X₃ a o e)
  refine ks_wpAt_execs_cons (wpAt_of_wpAny (plainObj_wpAny_Assign_Attribute (hs := v3) ?_))
  have ld : ∀ {y : Str} {yp : Pos} {u : Value} {Q : Value → Shared → Prop} {E : Value → Shared → Prop} {s₅ : Shared}, s₅.heap = h₄ → env.kindOf y = some .local → ([(("self" : Str), Value.ref x), (fld, v)] : List (Str × Value)).reverse.lookup y = some u → (y == ("__debug__" : Str)) = false → Q u s₅ → wpAny (model prog w) (A.deeper env) (eval (.Name y yp) env) Q E s₅ :=
    fun {y yp u Q E s₅} e1 e2 e3 e4 q => wpAny_Name (wpAny_loadName_local hk' e2 (by rw [e1]; exact hns₄) e3 q) e4
  refine ld rfl hkf' vFld hfd (ld rfl hka' vSelf (by decide +kernel) ?_)
  refine set_plain X₄ (ox := excO C h₃.objs.size) (od := none) ⟨hx₄, rfl, rfl, trivial⟩ T.sa ?_
  refine exc_osa X₄ hx₄ hcl (show refsVE (.ref C :: bm) = true from hbmr) rfl T.noN (fun h₅ tk₅ dx k₅ dn dne hx₅ hn₅ => ?_)
  refine wpAt_of_wpAny (wpAny_execs_nil (hq h₅ tk₅ dx ⟨fun b o hb e => k₅ b o hb (k₄ b o hb (k₀₃ b o e)), ⟨_, hx₅⟩, ?_, dne, hn₅⟩))
  have z : s.heap.objs.size < h₄.objs.size := hloc ▸ hns₄.lt
  exact Nat.le_of_lt (Nat.lt_of_lt_of_le z dn)
theorem made (T : Txt prog K C fI fld) {v : Value} (X : K.In s.heap) (hg : s.heap.Ns mainGlobals mg) (hgm : mg "super" = none) (hb : s.heap.Ns builtinsNs mb) (hbm : mb "super" = some (.type "super")) (hlim : s.heap.NoLimit) (hroom : A.depth + 1 < recursionLimit)
    (hq : ∀ h' tk e d, Made s.heap h' e C d fld v → R (.ok (.ret (.ref e))) { s with heap := h', toks := tk }) :
    codeAny (model prog w) A (.call (.ref C) ⟨[v], []⟩) R s := by
  obtain ⟨nm, q, N, bs, bm, sn, sub, ab, col, dd, k0, k1, k2, k3, k5, hC, hbm'⟩ := T.cls
  obtain ⟨hp, g, dr, tk, os⟩ := s
  have k : ∀ b o, hp.get? b = some o → ((hp.push (kdv_tup [v])).push (excO C hp.objs.size)).get? b = some o := fun b o e => Heap.get?_push_of_some _ (Heap.get?_push_of_some _ e)
  have hget : ((hp.push (kdv_tup [v])).push (excO C hp.objs.size)).get? (hp.objs.size + 1) = some (excO C hp.objs.size) := by heap_get
  have hnx : K.lookup (hp.objs.size + 1) = none := by
    cases e : K.lookup (hp.objs.size + 1) with
    | none => rfl
    | some o =>
      have z : hp.get? (hp.objs.size + 1) = some o := X _ _ e
      exact absurd (Nat.lt_of_succ_lt (Heap.lt_size z)) (Nat.lt_irrefl _)
  refine call_own F.excBase_ValueError (fun X => refsVE_contains X bm hbm') (X _ _ hC) (looks_findIn X T.iC) (fun self => bind_fn X self T.tC) (one_size v) ?_
  refine init (s := ⟨(hp.push (kdv_tup [v])).push (excO C hp.objs.size), g, dr, tk, os⟩) T (X.keeps k) (hg.keeps k) hgm (hb.keeps k) hbm (hlim.keeps k) hget hnx ?_ fun h' tk' dx ⟨k', ⟨t1, hx⟩, dn, dne, hns⟩ => ?_
  · show A.depth + 1 < recursionLimit
    exact hroom
  · have old : ∀ b o, hp.get? b = some o → h'.get? b = some o := fun b o e => k' b o (Nat.ne_of_lt (Nat.lt_succ_of_lt (Heap.lt_size e))) (k b o e)
    have z : hp.objs.size + 1 + 1 ≤ dx := by
      first
        | (simpa only [Heap.size_push] using dn)
        | exact dn
        | (have q := dn; rw [Heap.size_push, Heap.size_push] at q; exact q)
    exact ⟨rfl, hq h' tk' (hp.objs.size + 1) dx ⟨old, Nat.le_succ _, ⟨_, _, hx, rfl, rfl, rfl, rfl, rfl⟩, Nat.le_trans (Nat.le_trans (Nat.le_succ _) (Nat.le_succ _)) z, dne, hns⟩⟩
end
end ExM
end PySem

namespace L2
open PySem PySem.Spec PyProof.Rows
section
variable {X : Cx} {C fI : Addr} {fld : Str}
theorem relO_ex {v : V} {v' : Value} (r : RelV v v') (f : Str) : RelO (List.lookup f [(fld, v)]) (if f = fld then some v' else none) := by
  by_cases hw : f = fld
  · subst hw
    rw [if_pos rfl]
    have q : List.lookup f [(f, v)] = some v := by simp [List.lookup]
    rw [q]
    exact r
  · rw [if_neg hw]
    have qw : (f == fld) = false := by simpa using hw
    have q2 : List.lookup f [(fld, v)] = none := by simp [List.lookup, qw]
    rw [q2]
    trivial
/-- C(e), an own error with the field fld -/
def tMkX (C : Addr) (fld : Str) (ta : TA) : St → Hp → XK → Prop := fun σ H Q => ta σ H fun vs H1 => ∃ v, vs = [v] ∧ ∀ d, H1 d = none → Q (.ref C) (some d) (upd H1 d (.xd [(fld, v)]))
theorem pmk_ex {nm : Str} {a : Expr} {ta : TA} {p pos : Pos} {k : Nat} (T : PySem.ExM.Txt X.prog X.K C fI fld) (gC : X.mg nm = some (.ref C)) (gs : X.mg "super" = none) (hr : Room k X.A) (hk : 1 ≤ k) (ha : PA X [a] ta) (hg : Gl X nm := by rfl)
    (hdb : (nm == ("__debug__" : Str)) = false := by decide) (he : starEach (a :: []) X.env = (false, eval a X.env) :: starEach [] X.env := by rfl) (hpl : (backTo pos (starEach [] X.env)).any (·.1) = false := by rfl) :
    L2N.PMk X (.Call (.Name nm p) [a] [] pos) (tMkX C fld ta) := by
  intro pins s σ H Q I h
  refine wpAny_Call_Name_kw (ld_glob I hg gC ?_ hdb)
  refine PySem.W.callWith_K (h₀ := X.base) I.ok.mod.kin T.kC (thn (ha.run pos pins s σ H _ I h) fun us s1 hh => ?_) he hpl
  obtain ⟨vs, H1, I1, r1, v, ev, q1⟩ := hh
  subst ev
  refine ⟨I1.kIn, ?_⟩
  cases r1 with
  | cons rv rn =>
    rename_i v' us'
    cases rn
    show wpAny _ _ (call (.ref C) [v']) _ _ _
    have hlim := I1.nolimit
    obtain ⟨mb, hb1, hb2⟩ := I1.mod.blt
    have hgl := I1.mod.glob.keeps I1.bk
    have hbl := hb1.keeps I1.bk
    have hbs : mb "super" = some (.type "super") := (hb2 "super" (by decide +kernel)).trans (by decide +kernel)
    obtain ⟨hp, g, dr, tk, os⟩ := s1
    refine wpAny_call (PySem.ExM.made T I1.kIn hgl gs hbl hbs hlim (by have := hr.dp; omega) fun h' tk' e d M => ?_)
    show L2N.MkP X pins σ Q (.ref e) ⟨h', g, dr, tk', os⟩
    obtain ⟨oe, fv, hoe, hc, hd, hdat, h1, h2⟩ := M.obj
    have hns := M.ns
    obtain ⟨G', g1, g2⟩ := restrict h' fun b => decide (b ≠ e)
    have gk : ∀ b, b ≠ e → G'.get? b = h'.get? b := fun b hb => g1 b (decide_eq_true hb)
    have ge : G'.get? e = none := g2 e (by simp)
    have old : ∀ b o, hp.get? b = some o → G'.get? b = some o := fun b o q => (gk b (Nat.ne_of_lt (Nat.lt_of_lt_of_le (Heap.lt_size q) M.new))).trans (M.keep b o q)
    have ob : ObjOk X.prog X.w (upd H1 d (.xd [(fld, v)])) G' d (.xd [(fld, v)]) :=
      ⟨_, hns.at (fun o q => (gk d M.dne).trans q), fun f => relO_ex rv f⟩
    have J : Inv X pins σ (upd H1 d (.xd [(fld, v)])) ⟨G', g, dr, tk', os⟩ := I1.laid (t' := tk') old M.dbig ob
    refine ⟨e, oe, fv, ⟨G', g, dr, tk', os⟩, _, .ref C, some d, rfl, J, fun b o q => ?_, ge, hoe, ⟨hc, hd, fun vs e => by rw [hdat] at e; cases e; exact h2⟩, hdat, h1, ?_, rfl, I1.bare, raises_own T.exC T.tyC, q1 d (I1.hok.fresh M.dbig)⟩
    · by_cases hb : b = e
      · have q' : G'.get? b = some o := q
        rw [hb, ge] at q'; cases q'
      · exact (gk b hb).symm.trans q
    · rw [upd_ne (Ne.symm M.dne)]
      exact I1.hok.fresh M.new
end
end L2
namespace Pm
open PySem PySem.Spec PyProof.Rows L2
section
variable {c : Cc} {O O' : Ow} {H H' : Hp} {ρ ρ' : En} {τ τ' : List (V × R)} {σ σ' : St} {v : V} {ℓ ℓ' : Lab} {ct : Ct} {X : Cx} {ek : EK} {fl : Bool}
variable {a b e : Expr} {rest : List Expr} {Ta Tb Te : TEp} {TA' TB' TT' : TTp} {pos : Pos} {T U : TSp} {TA TB : TAp} {es : List Expr} {st : Stmt} {sts : List Stmt}
theorem takesN0 {X : Cx} : L2N.Takes X (fun _ _ _ _ => False) := fun _ _ x => by
  obtain ⟨_, _, _, _, _, _, _, _, _, _, _, _, _, _, _, _, z⟩ := x
  exact z.elim
/-! ### what never raises, where errors may be about -/
def nxE (T : TEp) : TEp := fun ρ R _ => T ρ R fun _ _ => False
def nxT (T : TTp) : TTp := fun ρ R _ => T ρ R fun _ _ => False
def nxI (T : TIp') : TIp' := fun ρ R _ => T ρ R fun _ _ => False
def Ep.no (E : Ep) : Ep := ⟨E.nx, E.rt, E.bk, E.ct, fun _ _ => False⟩
def nxS (T : TSp) : TSp := fun ρ E => T ρ E.no
theorem ek0_no {σ : St} : ek0 (fun _ _ => False) σ := fun _ _ z => z
/-! ### errors that lie -/
def flD : D → Option V
  | .int i => some (.int i)
  | .str x => some (.str x)
  | .non => some .non
  | _ => none
theorem flD_rp {d : D} {v : V} {K : PySem.W.Frag} {A : Av} (h : flD d = some v) : Rp K H A d v := by
  cases d <;> simp only [flD, Option.some.injEq, reduceCtorEq] at h
  · subst h; exact Rp.ofNon
  · subst h; exact Rp.ofInt _
  · subst h; exact Rp.ofStr _
theorem flD_of {d : D} {v w : V} {K : PySem.W.Frag} {A : Av} (h : flD d = some v) (r : Rp K H A d w) : w = v := by
  cases d <;> simp only [flD, Option.some.injEq, reduceCtorEq] at h
  · subst h; unfold Rp at r; exact r
  · subst h; unfold Rp at r; exact r
  · subst h; unfold Rp at r; exact r
/-- what an own error's class says of its instances -/
structure ExI (K : PySem.W.Frag) (C : Addr) (f : Str) : Prop where
  ga : PySem.W.findIn K (.ref C) "__getattribute__" = some (some (.builtin "BaseException.__getattribute__"))
  gg : PySem.W.findIn K (.ref C) "__getattr__" = some none
  ex : PySem.W.subIn K (.ref C) (.type "BaseException") = some true
  ha : PySem.W.findIn K (.ref C) "__class__" = some (some (.builtin "object.__class__"))
  hn : PySem.W.specialIn K (.builtin "object.__class__") "__get__" = some (some (.builtin "getset_descriptor.__get__"))
  ht : PySem.W.takesIn K (.builtin "object.__class__") = some true
  hm : PySem.W.mroIn K C (.type "object") = some true
  hd : PySem.W.hasDictIn K C = true
  no : PySem.W.findIn K (.ref C) f = some none
def ExD (K : PySem.W.Frag) (cls : Str → Option Addr) (x : Exn) (cv : Value) (d : Option Addr) (H : Hp) (dd : Addr) : Prop :=
  ∃ C f dv v, x.fs = [(f, dv)] ∧ flD dv = some v ∧ cls x.nm = some C ∧ cv = .ref C ∧ d = some dd ∧ H dd = some (.xd [(f, v)]) ∧ ExI K C f
/-- what is wished of an error: the temporaries under it are τ -/
def exW (c : Cc) (τ : List (V × R)) (Ex : Exn → En → Prop) : WX := fun cv d σ H => ∃ x ρ O dd, Ex x ρ ∧ Sim0 c H O ρ τ σ ∧ ExD c.K c.cls x cv d H dd ∧ O dd = none ∧ (c.H0 dd = none ∨ c.I dd)
theorem exW_pops {τi τ : List (V × R)} {Ex : Exn → En → Prop} {cv : Value} {d : Option Addr} (h : exW c (τi ++ τ) Ex cv d σ H) : exW c τ Ex cv d σ H := by
  obtain ⟨x, ρ, O, dd, e, S, r⟩ := h
  exact ⟨x, ρ, O, dd, e, ⟨S.len, S.fr, S.ow, S.zt, S.io, S.sl, S.tm.app⟩, r⟩
/-! ### statements that may raise -/
def rdX (c : Cc) (X : Cx) (T : TSp) : TS := fun D σ H => ∃ ρ τ E, Sim c ρ τ σ H ∧ NoAl τ ∧ T ρ E ∧ (∀ ρ' σ' H', E.nx ρ' → Sim c ρ' τ σ' H' → D.nx σ' H') ∧ (∀ ρ' σ' H', E.bk ρ' → Sim c ρ' τ σ' H' → D.bk σ' H') ∧
  (∀ ρ' σ' H', E.ct ρ' → Sim c ρ' τ σ' H' → D.ct σ' H') ∧ (∀ r ρ' v σ' H', E.rt r ρ' → Sim c ρ' ((v, r) :: τ) σ' H' → D.rt v H') ∧ L2N.Takes X (exW c τ E.ex)
abbrev PSx (c : Cc) (X : Cx) (s : Stmt) (T : TSp) : Prop := PS X s (rdX c X T)
abbrev PSsx (c : Cc) (X : Cx) (s : List Stmt) (T : TSp) : Prop := PSs X s (rdX c X T)
theorem x_lift (h : PSp c ek0 X st T) : PSx c X st (nxS T) := by
  refine ⟨fun pins s σ H D I z => ?_⟩
  obtain ⟨ρ, τ, E, S, n, hT, q1, q2, q3, q4, q5⟩ := z
  exact h.run pins s σ H D I ⟨ρ, τ, _, S, n, hT, q1, q2, q3, q4, fun _ => ek0_no⟩
theorem x_nil : PSsx c X [] sNil := by
  refine ⟨fun pins s σ H D I z => ?_⟩
  obtain ⟨ρ, τ, E, S, n, hT, q1, q2, q3, q4, q5⟩ := z
  exact (pss_nil).run pins s σ H D I (q1 _ _ _ hT S)
theorem x_cons (h1 : PSx c X st T) (h2 : PSsx c X sts U) : PSsx c X (st :: sts) (sSeq T U) := by
  refine ⟨fun pins s σ H D I z => ?_⟩
  obtain ⟨ρ, τ, E, S, n, hT, q1, q2, q3, q4, q5⟩ := z
  exact (pss_cons h1 h2).run pins s σ H D I ⟨ρ, τ, _, S, n, hT, fun ρ' σ' H' e S' => ⟨ρ', τ, E, S', n, e, q1, q2, q3, q4, q5⟩, q2, q3, q4, q5⟩
theorem x_one (h1 : PSx c X st T) : PSsx c X [st] T := ⟨fun pins s σ H D I h => (pss_one h1).run pins s σ H D I h⟩
theorem x_if {t : Expr} {A B : List Stmt} (ht : PTp c ek0 true X t TT') (ha : PSsx c X A T) (hb : PSsx c X B U) : PSx c X (.If t A B pos) (sIf (nxT TT') T U) := by
  refine ⟨fun pins s σ H D I h => ?_⟩
  obtain ⟨ρ, τ, E, S, n, hT, q1, q2, q3, q4, q5⟩ := h
  refine (ps_if ht ha hb).run pins s σ H D I ⟨ρ, τ, _, _, S, hT, fun k ρ' H' h1 S1 => ?_, ek0_no, fun _ => n.alf⟩
  cases k with
  | true => rw [if_pos rfl] at h1 ⊢; exact ⟨ρ', τ, E, S1, n, h1, q1, q2, q3, q4, q5⟩
  | false => rw [if_neg Bool.false_ne_true] at h1 ⊢; exact ⟨ρ', τ, E, S1, n, h1, q1, q2, q3, q4, q5⟩
theorem x_for {g : Tg} {tg iter : Expr} {body : List Stmt} {TI : TIp'} (hp : PassesOwn (model X.prog X.w) X.A X.env X.xe) (hc : X.calm = true) (hi : PIp' c ek0 true X tg iter TI) (hg : PGp c X tg g) (hb : PSsx c X body T)
    (hs : ∀ x, foldedSetIterable iter X.env x = pure x := by intro _; rfl) : PSx c X (.For tg iter body [] pos) (sFor (nxI TI) g T) := by
  refine ⟨fun pins s σ H D I h => ?_⟩
  obtain ⟨ρ, τ, E, S, n, hT, q1, q2, q3, q4, q5⟩ := h
  refine (ps_for hp hc hi hg hb hs).run pins s σ H D I ⟨ρ, τ, _, _, S, hT, fun ds ρ' J H' τi h1 hJ ni S1 => ?_, ek0_no, fun _ => n.alf⟩
  refine ⟨fun i m σ H => m = ds.length - i ∧ i ≤ ds.length ∧ ∃ ρ, Sim c ρ (τi ++ τ) σ H ∧ forK g T (ds.drop i) ρ E, ⟨ds.length, by simp, Nat.zero_le _, ρ', S1, h1⟩, ?_⟩
  rintro i m σ H ⟨rfl, hi, ρ, S, hf⟩
  obtain ⟨j1, j2⟩ := hJ σ H ρ [] τ i S
  by_cases hlt : i < ds.length
  · have hd : ds[i]? = some ds[i] := List.getElem?_eq_getElem hlt
    obtain ⟨jg, jy⟩ := j1 _ hd
    rw [List.drop_eq_getElem_cons hlt] at hf
    unfold forK at hf
    split at hf
    · rename_i ρ1 e1
      refine .inr ⟨jg, fun σ' H' => ∃ ρ, Sim c ρ (τi ++ τ) σ' H' ∧ forK g T (ds.drop (i + 1)) ρ E, fun σ' H' hN => ⟨ds.length - (i + 1), by omega, rfl, hlt, hN⟩, fun x H' y => ?_⟩
      obtain ⟨O, S2, rp⟩ := jy x H' y
      refine ⟨ρ, τi ++ τ, ds[i], ρ1, O, S2, .inl (ni.app n), rp, e1, fun σ' _ S3 => ?_⟩
      refine ⟨ρ1, τi ++ τ, _, ⟨O, S3⟩, ni.app n, hf, fun ρ' σ' H' e S' => ⟨ρ', S', e⟩, fun ρ' σ' H' e S' => q1 _ _ _ e S'.pops, fun ρ' σ' H' e S' => ⟨ρ', S', e⟩, fun r ρ' v σ' H' e S' => q4 _ _ _ _ _ e S'.mid, q5.imp fun _ _ _ _ => exW_pops⟩
    · exact hf.elim
  · have e : i = ds.length := by omega
    subst e
    rw [List.drop_length] at hf
    exact .inl ⟨j2 (Nat.le_refl _), q1 _ _ _ hf S.pops⟩
/-! ### raise C(e) -/
structure ExcOk (P : Program) (K : PySem.W.Frag) (cls : Str → Option Addr) (mg : Str → Option Value) (nm fld : Str) : Prop where
  ex : ∃ C fI, cls nm = some C ∧ PySem.ExM.Txt P K C fI fld ∧ mg nm = some (.ref C) ∧ mg "super" = none ∧ ExI K C fld
def sRaise (nm fld : Str) (TA : TAp) : TSp := fun ρ E => TA ρ (fun rs ρ1 => match rs with
  | [r] => (match fzC ρ1 r with
    | some (d, ρ2) => (∃ v, flD d = some v) ∧ E.ex ⟨nm, [(fld, d)]⟩ ρ2
    | none => False)
  | _ => False) fun _ _ => False
theorem x_raise {nm fld : Str} {p pos2 : Pos} {k : Nat} (F : ExcOk X.prog X.K c.cls X.mg nm fld) (hc : X.calm = true) (hr : Room k X.A) (hk : 1 ≤ k) (ha : PAp c ek0 true X [a] TA) (hg : Gl X nm := by rfl) (hK : X.K = c.K := by rfl)
    (hdb : (nm == ("__debug__" : Str)) = false := by decide) (he : starEach (a :: []) X.env = (false, eval a X.env) :: starEach [] X.env := by rfl) (hpl : (backTo pos (starEach [] X.env)).any (·.1) = false := by rfl) :
    PSx c X (.Raise (some (.Call (.Name nm p) [a] [] pos)) none pos2) (sRaise nm fld TA) := by
  obtain ⟨C, fI, hC, T, gC, gs, xi⟩ := F.ex
  rw [hK] at xi
  refine ⟨fun pins s σ H D I h => ?_⟩
  obtain ⟨ρ, τ, E, S, n, hT, q1, q2, q3, q4, q5⟩ := h
  refine (L2N.ps_raise (W := exW c τ E.ex) hc q5 (pmk_ex T gC gs hr hk ha hg hdb he hpl)).run pins s σ H D I ?_
  refine ⟨ρ, τ, _, _, S, hT, fun rs ρ1 vs H1 h1 hl S1 => ?_, ek0_no, fun _ => n.alf⟩
  split at h1
  · rename_i r
    obtain ⟨v, rfl⟩ : ∃ v, vs = [v] := by
      match vs, hl with
      | [v], _ => exact ⟨v, rfl⟩
    split at h1
    · rename_i d ρ2 e2
      obtain ⟨⟨w, hw⟩, hx⟩ := h1
      obtain ⟨O1, S1⟩ := S1
      obtain ⟨O2, S2, rp, _⟩ := fzC_ok (show Sim0 c H1 O1 ρ1 ((v, r) :: τ) σ from S1) e2
      have ev := flD_of hw rp
      subst ev
      refine ⟨v, rfl, fun dd hdd => ?_⟩
      have S3 := S2.new (o := .xd [(fld, v)]) (m := none) hdd (fun z => absurd rfl z)
      refine ⟨⟨nm, [(fld, d)]⟩, ρ2, _, dd, hx, S3, ⟨C, fld, d, v, rfl, hw, hC, rfl, rfl, upd_same, xi⟩, Ow.set_same, S2.h0_none hdd⟩
    · exact h1.elim
  · exact h1.elim
end
end Pm

namespace Pm
open PySem PySem.Spec PyProof.Rows L2
section
variable {c : Cc} {O O' : Ow} {H H' : Hp} {ρ ρ' : En} {τ τ' : List (V × R)} {σ σ' : St} {v : V} {ℓ ℓ' : Lab} {ct : Ct} {X : Cx} {ek : EK} {fl : Bool}
variable {a b e : Expr} {rest : List Expr} {Ta Tb Te : TEp} {TA' TB' TT' : TTp} {pos : Pos} {T U : TSp} {TA TB : TAp} {es : List Expr} {st : Stmt} {sts : List Stmt}
/-! ### promises of defs that may raise -/
def spX (K : PySem.W.Frag) (cls : Str → Option Addr) (n : Nat) (φ : Fn) : Sp := fun vs H Q E => ∃ Z cs O R0 E0, vs.length = n ∧ cs.length = n ∧ (∀ a, Z a → H a ≠ none) ∧ (∀ a ℓ, O a = some ℓ → ¬ Z a ∧ Mut (H a)) ∧
  (∀ i v ct, vs[i]? = some v → cs[i]? = some ct → COk (Cc.mk0 K cls Z) H O v (.s i) ct) ∧ φ cs R0 E0 ∧
  (∀ r cs' v H' O', R0 r cs' → RetOk K cls Z H O vs v r cs' H' O' → Q v H') ∧
  (∀ x cs' cv d H' O' dd, E0 x cs' → RetOk K cls Z H O vs .non (Fz .non) cs' H' O' → ExD K cls x cv d H' dd → O' dd = none → (H dd = none ∨ O dd ≠ none) → E cv d H')
section
variable {P : Program} {w : World} {K : PySem.W.Frag} {cls : Str → Option Addr} {mg : Str → Option Value} {base : Heap}
theorem body_spX {qual : Str} {sc : Scope} {body : List Stmt} {f : Addr} {N ps : List Str} {k m nb : Nat} {lock : List Nat} {T : TSp} {φ : Fn} (hm : N.length = ps.length + m)
    (hφ : ∀ cs R0 E0, φ cs R0 E0 → fnOf m lock T cs R0 E0)
    (hbody : ∀ (c : Cc) (cdv : Value) (A : Around) (outer : List Env) (s : Shared) (H : Hp) (E : XK), c.K = K → c.cls = cls → c.lock = lock → c.nb = nb → Room k (A.deeper (envOfC qual sc s.heap.objs.size f cdv)) →
      PSsx c (cxOf (L2N.CX P w) P w K mg base N qual sc f cdv A outer s H E) body T) (cdv : Value) (A : Around) (outer : List Env) (s : Shared) (H : Hp) (vs : List V) (Q : VK) (E : XK) (hr : Room k (A.deeper (envOfC qual sc s.heap.objs.size f cdv))) (h : spX K cls ps.length φ vs H Q E) :
    ∃ t, PSs (cxOf (L2N.CX P w) P w K mg base N qual sc f cdv A outer s H E) body t ∧ t { nx := fun _ H' => Q .non H', rt := Q } (L2.start N vs) H := by
    obtain ⟨Z, cs, O, R0, E0, hl, hlc, hZ, hO, hA, hf, hQ, hE⟩ := h
    obtain ⟨hlk, hT⟩ := hφ _ _ _ hf
    refine ⟨_, hbody (ccOf K cls Z H O vs cs lock nb) cdv A outer s H E rfl rfl rfl rfl hr, ?_⟩
    have st0 : ∀ i v, vs[i]? = some v → (L2.start N vs)[i]? = some (some v) := fun i v h => by
      unfold L2.start
      have hi : i < vs.length := (List.getElem?_eq_some_iff.mp h).1
      rw [List.getElem?_append_left (by simpa using hi), List.getElem?_map, h]; rfl
    have cx : ∀ {H' : Hp} {O' : Ow} {v : V} {ℓ : Lab} {ct : Ct}, COk (ccOf K cls Z H O vs cs lock nb) H' O' v ℓ ct → COk (Cc.mk0 K cls Z) H' O' v ℓ ct := fun h => COk.ctx rfl rfl (fun _ => Iff.rfl) h
    have S0 : Sim (ccOf K cls Z H O vs cs lock nb) (cs ++ List.replicate m .no) [] (L2.start N vs) H := by
      refine ⟨O, ?_, fun a o h _ => h, fun a ℓ q => ⟨(hO a ℓ q).1, .inr (by show O a ≠ none; rw [q]; simp), (hO a ℓ q).2⟩, hZ, fun p hp => ?_, fun i ct q n => ?_, trivial⟩
      · unfold L2.start
        simp only [List.length_append, List.length_map, List.length_replicate]
        omega
      · obtain ⟨j, e1, e2, ct, e3, e4⟩ := ioOf_mem hp
        have e5 : p.1 = j := by omega
        rw [e5]
        exact ⟨hlk j ct e3 e4, st0 _ _ e2⟩
      · by_cases hi : i < cs.length
        · rw [List.getElem?_append_left hi] at q
          obtain ⟨v, hv⟩ : ∃ v, vs[i]? = some v := ⟨vs[i], List.getElem?_eq_getElem (by omega)⟩
          exact ⟨v, st0 i v hv, COk.ctx rfl rfl (fun _ => Iff.rfl) (hA i v ct hv q)⟩
        · rw [List.getElem?_append_right (by omega), List.getElem?_replicate] at q
          split at q
          · cases q; exact absurd rfl n
          · cases q
    -- what a def's end hands on
    have finR : ∀ {H' : Hp} {O' : Ow} {σ' : St} {ρ' : En} {v : V} {r : Ct}, Sim0 (ccOf K cls Z H O vs cs lock nb) H' O' ρ' [] σ' → COk (ccOf K cls Z H O vs cs lock nb) H' O' v .r r → RetOk K cls Z H O vs v r (outs cs ρ') H' O' := fun {H' O' σ' ρ' v r} S' hr' => by
      refine ⟨fun a o h1 h2 => S'.fr a o h1 (fun z => z h2), fun a ℓ q => ?_, cx hr', fun i u ct h1 h2 => ?_⟩
      · obtain ⟨z1, z2, z3⟩ := S'.ow a ℓ q
        exact ⟨z1, z2, z3⟩
      · rcases outs_get h2 with e | ⟨old, e1, e2, e3⟩
        · subst e; trivial
        · obtain ⟨a, ea⟩ := (hA i u old h1 e1).isRef e2
          subst ea
          have hio := (S'.io (i, a) (by have := ioOf_has (k := 0) h1 e1 e2; rw [Nat.zero_add] at this; exact this)).2
          by_cases hn : ct = .no
          · subst hn; trivial
          obtain ⟨w', e4, e5⟩ := S'.sl i ct e3 hn
          rw [hio] at e4; cases e4
          exact cx e5
    have fin : ∀ {H' : Hp} {O' : Ow} {σ' : St} {ρ' : En} {v : V} {r : Ct}, Sim0 (ccOf K cls Z H O vs cs lock nb) H' O' ρ' [] σ' → COk (ccOf K cls Z H O vs cs lock nb) H' O' v .r r → (∀ a ℓ, O' a = some ℓ → True) → R0 r (outs cs ρ') → Q v H' := fun S' hr' _ h0 => hQ _ _ _ _ _ h0 (finR S' hr')
    refine ⟨_, [], _, S0, fun v r m => (by cases m), hT, fun ρ' σ' H' h1 ⟨O', S'⟩ => fin S' (r := Fz .non) COk.non (fun _ _ _ => trivial) h1, fun _ _ _ z => z.elim, fun _ _ _ z => z.elim, fun r ρ' v σ' H' h1 ⟨O', S'⟩ => ?_, (L2N.takes_of (E := E) rfl rfl rfl rfl).imp fun cv d σ' H' z => ?_⟩
    have fz : (match fzC ρ' r with | some (d, ρ'') => R0 (Fz d) (outs cs ρ'') | none => False) → Q v H' := fun h1 => by
      split at h1
      · rename_i d ρ2 e1
        obtain ⟨O2, S2, rp, _⟩ := fzC_ok S' e1
        exact fin S2 (r := Fz d) rp (fun _ _ _ => trivial) h1
      · exact h1.elim
    cases r with
    | alf i g => exact fz h1
    | va ct =>
      have S2 := S'.pop
      have hc : COk _ H' (O'.re (.t 0) .r) v .r ct := COk.re S'.tm.1
      have ex : Ext (ccOf K cls Z H O vs cs lock nb) (fun l _ => l.1 = .t 0) O' (O'.re (.t 0) .r) H' H' := Ext.re
      refine fin (O' := O'.re (.t 0) .r) (σ' := σ') ⟨S2.len, S2.fr, S2.ow_re, S2.zt, S2.io, fun i ct' q hn => ?_, trivial⟩ hc (fun _ _ _ => trivial) h1
      obtain ⟨u, e1, e2⟩ := S2.sl i ct' q hn
      exact ⟨u, e1, e2.mono ex (fun m a z => by cases z)⟩
    | al i =>
      have h1 : (if i < cs.length then (match fzC ρ' (.al i) with | some (d, ρ') => R0 (Fz d) (outs cs ρ') | none => False) else (match ρ'[i]? with | some ct => R0 ct (outs cs ρ') | none => False)) := h1
      by_cases hi : i < cs.length
      · rw [if_pos hi] at h1; exact fz h1
      · rw [if_neg hi] at h1
        split at h1
        · rename_i ct e1
          have hv := S'.tm.1.2
          have S2 := S'.pop
          by_cases hn : ct = .no
          · subst hn
            exact fin S2 (r := .no) trivial (fun _ _ _ => trivial) h1
          obtain ⟨u, e4, e5⟩ := S2.sl i ct e1 hn
          rw [hv] at e4; cases e4
          have ex : Ext (ccOf K cls Z H O vs cs lock nb) (fun l _ => l.1 = .s i) O' (O'.re (.s i) .r) H' H' := Ext.re
          have hc : COk _ H' (O'.re (.s i) .r) v .r ct := COk.re e5
          -- the slot itself is forgotten
          have ho : outs cs ρ' = outs cs (ρ'.set i .no) := by
            apply List.ext_getElem?
            intro j
            unfold outs
            rw [List.getElem?_zipWith, List.getElem?_zipWith]
            by_cases hj : j = i
            · subst hj
              rw [List.getElem?_eq_none (show cs.length ≤ j by omega)]
            · rw [List.getElem?_set_ne (Ne.symm hj)]
          rw [ho] at h1
          refine fin (O' := O'.re (.s i) .r) (σ' := σ') ⟨by rw [List.length_set]; exact S2.len, S2.fr, S2.ow_re, S2.zt, S2.io, fun j ct' q hn' => ?_, trivial⟩ hc (fun _ _ _ => trivial) h1
          by_cases hj : j = i
          · subst hj
            by_cases hl : j < ρ'.length
            · rw [List.getElem?_set_self hl] at q; cases q; exact absurd rfl hn'
            · rw [List.getElem?_eq_none (by simpa using hl)] at q; cases q
          · rw [List.getElem?_set_ne (Ne.symm hj)] at q
            obtain ⟨u', e1', e2'⟩ := S2.sl j ct' q hn'
            exact ⟨u', e1', e2'.mono ex (fun m a z => by cases z; exact hj rfl)⟩
        · exact h1.elim
    · obtain ⟨x, ρ', O', dd, e1, S', e2, e3, e4⟩ := z
      exact hE x _ cv d H' O' dd e1 (finR S' (r := Fz .non) COk.non) e2 e3 e4
theorem fnX_ok {x qual : Str} {st : Stmt} {f : Addr} {fd : FuncData} {N ps : List Str} {k m nb : Nat} {lock : List Nat} {T : TSp} {φ : Fn} (F : Fun K x qual st f fd) (S : FnScope N ps (defScope st)) (hm : N.length = ps.length + m)
    (hφ : ∀ cs R0 E0, φ cs R0 E0 → fnOf m lock T cs R0 E0)
    (hbody : ∀ (c : Cc) (cdv : Value) (A : Around) (outer : List Env) (s : Shared) (H : Hp) (E : XK), c.K = K → c.cls = cls → c.lock = lock → c.nb = nb → Room k (A.deeper (envOfC qual (defScope st) s.heap.objs.size f cdv)) →
      PSsx c (cxOf (L2N.CX P w) P w K mg base N qual (defScope st) f cdv A outer s H E) (defBody st) T) : FnOk P w K mg base (L2N.CX P w) (k + 1) f fd ps (spX K cls ps.length φ) :=
by
  obtain ⟨oc, od, kV, doc, pm, an, cdv, ct, osl, rfl, lk, hcd⟩ := F.ex
  exact fn_of lk hcd S (fun vs H Q E h => let ⟨_, _, _, _, _, h1, _⟩ := h; h1) fun A outer s H vs Q E hr hsp => body_spX hm hφ hbody cdv A outer s H vs Q E hr hsp
end
/-! ### calls of such defs -/
theorem call_back {xs : Xs} {dvs : List V} {vs : List V} {ρ1 : En} {O1 : Ow} {r : Ct} {cs' : List Ct} (hfl : ∀ v i f, (v, R.alf i f) ∈ τ → i ∉ brs xs)
    (S1 : Sim0 c H O1 ρ1 τ σ) (A1 : AOk c H O1 σ xs vs) (hnd : (brs xs).Nodup) (K' : RetOk c.K c.cls (calZ c O1 xs) H (calO O1 xs) (vs ++ dvs) v r cs' H' O') : Sim0 c H' (backO O1 O' xs τ.length) (wb xs cs' ρ1) ((v, .va r) :: τ) σ := by
  have cal0 : ∀ a o, H a = some o → O1 a = none → calO O1 xs a = none := fun a o _ z => by unfold calO; rw [z]
  have oNone : ∀ a o, H a = some o → calO O1 xs a = none → O' a = none := fun a o h1 h2 => by
    cases q : O' a with
    | none => rfl
    | some l =>
      rcases (K'.ow a l q).2.1 with z | z
      · rw [h1] at z; cases z
      · exact absurd h2 z
  have bkN : ∀ a o, H a = some o → calO O1 xs a = none → backO O1 O' xs τ.length a = O1 a := fun a o h1 h2 => by
    unfold backO
    rw [oNone a o h1 h2, if_pos h2]
  have avB : ∀ a, c.av (backO O1 O' xs τ.length) a → (Cc.mk0 c.K c.cls (calZ c O1 xs)).av O' a := fun a z => by
    rcases z with z | z
    · exact .inl (.inl z)
    · cases q : O' a with
      | some l => exact .inr (by rw [q]; simp)
      | none =>
        unfold backO at z
        rw [q] at z
        simp only at z
        by_cases hc : calO O1 xs a = none
        · rw [if_pos hc] at z; exact .inl (.inr ⟨z, hc⟩)
        · rw [if_neg hc] at z; exact absurd rfl z
  have ex : Ext c (fun l _ => ∃ i, l.1 = .s i ∧ kOf xs i 0 ≠ none) O1 (backO O1 O' xs τ.length) H H' := by
    have key : ∀ a o, H a = some o → ¬ Mut (some o) → H' a = some o := fun a o ho nm => by
        refine K'.fr a o ho (cal0 a o ho ?_)
        cases q : O1 a with
        | none => rfl
        | some l => have := (S1.ow a l q).2.2; rw [ho] at this; exact absurd this nm
    refine ⟨fun a o u h => key a _ h (fun z => z), fun a ys h => ?_, fun a ys h n => ?_, fun a l o h n h2 => ?_⟩
    · have key := key a
      rcases h with (h | ⟨u, h⟩) | h
      · exact .inl (.inl (key _ h (fun z => z)))
      · exact .inl (.inr ⟨u, key _ h (fun z => z)⟩)
      · exact .inr h
    · have hz : O1 a = none := by
        cases q : O1 a with
        | none => rfl
        | some l => exact absurd (.inr (by rw [q]; simp)) n
      have hc := cal0 a _ h hz
      refine ⟨K'.fr a _ h hc, ?_⟩
      rintro (z | z)
      · exact n (.inl z)
      · rw [bkN a _ h hc, hz] at z; exact z rfl
    · have hc : calO O1 xs a = none := by
        unfold calO
        rw [h]
        obtain ⟨k, m⟩ := l
        cases k with
        | s i =>
          cases q : kOf xs i 0 with
          | none => simp only [q, Option.map_none]
          | some k => exact absurd ⟨i, rfl, by rw [q]; simp⟩ n
        | t i => rfl
        | r => rfl
      exact ⟨by rw [bkN a o h2 hc]; exact h, K'.fr a o h2 hc⟩
  have tmA : TOk c H' (backO O1 O' xs τ.length) σ τ := by
    refine S1.tm.mono ex (fun k m a hk z => by obtain ⟨i, e, _⟩ := z; cases e) (fun w i f m x C dx vfs hx z => ?_)
    obtain ⟨j, e, z⟩ := z
    cases e
    apply z
    cases q : kOf xs i 0 with
    | none => rfl
    | some k =>
      obtain ⟨j', _, e2⟩ := kOf_get q
      exact absurd (mem_brs e2) (hfl w i f m)
  refine ⟨by rw [wb_len]; exact S1.len, fun a o h2 h3 => ?_, fun a l q => ?_, fun a z => ?_, S1.io, fun j ct q hn' => ?_, ?_, tmA⟩
  · have h4 := S1.fr a o h2 h3
    refine K'.fr a o h4 ?_
    cases q : calO O1 xs a with
    | none => rfl
    | some l =>
      obtain ⟨i, m, k, e2, _⟩ := calO_some q
      rcases (S1.ow a _ e2).2.1 with z | z
      · rw [h2] at z; cases z
      · exact absurd z h3
  · cases q' : O' a with
    | some l' =>
      obtain ⟨z1, z2, z3⟩ := K'.ow a l' q'
      refine ⟨fun z => z1 (.inl z), ?_, z3⟩
      rcases z2 with z2 | z2
      · exact S1.h0_none z2
      · cases q2 : calO O1 xs a with
        | none => exact absurd q2 z2
        | some l2 =>
          obtain ⟨i, m, k, e2, _⟩ := calO_some q2
          exact (S1.ow a _ e2).2.1
    | none =>
      unfold backO at q
      rw [q'] at q
      simp only at q
      by_cases hc : calO O1 xs a = none
      · rw [if_pos hc] at q
        obtain ⟨z1, z2, z3⟩ := S1.ow a l q
        refine ⟨z1, z2, ?_⟩
        cases hh : H a with
        | none => rw [hh] at z3; exact z3.elim
        | some o => rw [K'.fr a o hh hc]; rw [hh] at z3; exact z3
      · rw [if_neg hc] at q; cases q
  · cases hh : H a with
    | none => exact absurd hh (S1.zt a z)
    | some o =>
      rw [K'.fr a o hh ?_]; simp
      cases q2 : calO O1 xs a with
      | none => rfl
      | some l2 =>
        obtain ⟨i, m, k, e2, _⟩ := calO_some q2
        exact absurd z (S1.ow a _ e2).1
  · by_cases hj : j ∈ brs xs
    · have := brs_has hj
      obtain ⟨k, hk⟩ := this
      have hcs := wb_in hnd hk q hn'
      obtain ⟨u, e2, e3⟩ := A1.inr hk
      refine ⟨u, e3, ?_⟩
      have hka : k < vs.length := (List.getElem?_eq_some_iff.mp e2).1
      have := K'.args k u ct (by rw [List.getElem?_append_left hka]; exact e2) hcs
      refine COk.map (c := Cc.mk0 c.K c.cls (calZ c O1 xs)) (c' := c) (O := O') (O' := backO O1 O' xs τ.length) (ℓ := .s k) (ℓ' := .s j) rfl rfl (fun a m q => ?_) avB this
      unfold backO
      rw [q]
      simp only [hk]
    · rw [wb_out hj] at q
      obtain ⟨u, e2, e3⟩ := S1.sl j ct q hn'
      refine ⟨u, e2, e3.mono ex (fun m a z => ?_)⟩
      obtain ⟨i, e, z⟩ := z
      cases e
      apply z
      cases q2 : kOf xs j 0 with
      | none => rfl
      | some k => obtain ⟨j', _, e2⟩ := kOf_get q2; exact absurd (mem_brs e2) hj
  · refine COk.map (c := Cc.mk0 c.K c.cls (calZ c O1 xs)) (c' := c) (O := O') (O' := backO O1 O' xs τ.length) (ℓ := .r) (ℓ' := .t τ.length) rfl rfl (fun a m q => ?_) avB K'.ret
    unfold backO
    rw [q]

theorem call_coreX {φ : Fn} {xs : Xs} {dcs : List D} {dvs : List V} {vs : List V} {ρ1 : En} {O1 : Ow} {n : Nat} {R0 : R → En → Prop} {E0 : Exn → En → Prop} {Q : VK} {E : XK} (hfl : ∀ v i f, (v, R.alf i f) ∈ τ → i ∉ brs xs) (hd : ∀ H A, Rps c.K H A dcs dvs) (lx : xs.length + dcs.length = n)
    (S1 : Sim0 c H O1 ρ1 τ σ) (A1 : AOk c H O1 σ xs vs) (hnd : (brs xs).Nodup) (how : ∀ i ∈ brs xs, isOw (ρ1.getD i .no) = true) (hφ : φ (cts ρ1 xs ++ dcs.map Fz) (fun r cs' => R0 (.va r) (wb xs cs' ρ1)) (fun x cs' => E0 x (wb xs cs' ρ1)))
    (hE : ∀ cv d H', exW c τ E0 cv d σ H' → E cv d H') (hQ : ∀ r ρ' v H', R0 r ρ' → Sim c ρ' ((v, r) :: τ) σ H' → Q v H') : spX c.K c.cls n φ (vs ++ dvs) H Q E := by
  have lv := A1.len
  have ld : dvs.length = dcs.length := (hd (fun _ => none) (fun _ => False)).length
  refine ⟨calZ c O1 xs, cts ρ1 xs ++ dcs.map Fz, calO O1 xs, _, _, by rw [List.length_append]; omega, by rw [List.length_append, cts_len, List.length_map]; omega, fun a z => ?_, fun a ℓ q => ?_, fun i v ct h1 h2 => ?_, hφ, fun r cs' v H' O' h1 K' => hQ _ _ _ _ h1 ⟨_, call_back hfl S1 A1 hnd K'⟩, fun x cs' cv d H' O' dd h1 K' h2 h3 h4 => hE _ _ _ ⟨x, _, _, dd, h1, (call_back hfl S1 A1 hnd K').pop, h2, ?_, ?_⟩⟩
  · rcases z with z | z
    · exact S1.zt a z
    · cases q : O1 a with
      | none => exact absurd q z.1
      | some l => have := (S1.ow a l q).2.2; intro hn; rw [hn] at this; exact this
  · obtain ⟨i, m, k, e2, e3, e4⟩ := calO_some q
    refine ⟨?_, (S1.ow a _ e2).2.2⟩
    rintro (z | z)
    · exact (S1.ow a _ e2).1 z
    · rw [q] at z; cases z.2
  · by_cases hi : i < xs.length
    · rw [List.getElem?_append_left (by rw [cts_len]; exact hi), cts_get] at h2
      rw [List.getElem?_append_left (by omega)] at h1
      have hx : xs[i]? = some xs[i] := List.getElem?_eq_getElem hi
      cases hxi : xs[i] with
      | inl d =>
        rw [hxi] at hx
        rw [hx] at h2
        cases h2
        obtain ⟨u, e2, e3⟩ := A1.inl hx
        rw [h1] at e2; cases e2
        exact Rp.mono (fun _ _ _ h => h) (fun _ _ h => h) (fun a xs' h n => ⟨h, fun z => n ((av_cal a).mp z)⟩) d v e3
      | inr j =>
        rw [hxi] at hx
        rw [hx] at h2
        cases h2
        obtain ⟨u, e2, e3⟩ := A1.inr hx
        rw [h1] at e2; cases e2
        have hw := how j (mem_brs hx)
        cases hc : ρ1[j]? with
        | none => rw [List.getD_eq_getElem?_getD, hc] at hw; cases hw
        | some ct' =>
          have e5 : ρ1.getD j .no = ct' := by rw [List.getD_eq_getElem?_getD, hc]; rfl
          rw [e5] at hw
          show COk (Cc.mk0 c.K c.cls (calZ c O1 xs)) H (calO O1 xs) v (.s i) (ρ1.getD j .no)
          rw [e5]
          obtain ⟨u, e6, e7⟩ := S1.sl j ct' hc (by intro z; subst z; cases hw)
          rw [e3] at e6; cases e6
          refine COk.map (c := c) (c' := Cc.mk0 c.K c.cls (calZ c O1 xs)) (O := O1) (O' := calO O1 xs) (ℓ := .s j) (ℓ' := .s i) rfl rfl (fun a m q => ?_) (fun a z => (av_cal a).mp z) e7
          have hk := kOf_has (k := 0) hnd hx
          rw [Nat.zero_add] at hk
          unfold calO
          rw [q]
          show (kOf xs j 0).map _ = _
          rw [hk]; rfl
    · rw [List.getElem?_append_right (by rw [cts_len]; omega), cts_len, List.getElem?_map] at h2
      rw [List.getElem?_append_right (by omega)] at h1
      rw [lv] at h1
      cases hq : dcs[i - xs.length]? with
      | none => rw [hq] at h2; cases h2
      | some d =>
        rw [hq] at h2; cases h2
        obtain ⟨u, e2, e3⟩ := (hd H ((Cc.mk0 c.K c.cls (calZ c O1 xs)).av (calO O1 xs))).get hq
        rw [h1] at e2; cases e2
        exact e3
  · unfold backO
    rw [h3]
    simp only
    by_cases hc : calO O1 xs dd = none
    · rw [if_pos hc]
      rcases h4 with z | z
      · cases q : O1 dd with
        | none => rfl
        | some l => have := (S1.ow dd l q).2.2; rw [z] at this; exact this.elim
      · exact absurd hc z
    · rw [if_neg hc]
  · rcases h4 with z | z
    · exact S1.h0_none z
    · cases q2 : calO O1 xs dd with
      | none => exact absurd q2 z
      | some l2 =>
        obtain ⟨i, m, k, e2, _⟩ := calO_some q2
        exact (S1.ow dd _ e2).2.1
end
end Pm

namespace L2
open PySem PySem.Spec PyProof.Rows
section
variable {X : Cx} {CX : CXT} {k : Nat} {f C : Addr} {fd : FuncData} {ps : List Str} {sp : Sp} {E : St → XK} {x m : Str} {p pos apos : Pos} {e o : Expr} {es : List Expr} {ta : TE} {t : TA}
def tMethW (C : Addr) (m : Str) (sp : Sp) (E : St → XK) (ta : TE) (t : TA) : TE := fun σ H Q => ta σ H fun x H1 => ∃ a dx fs, x = .ref a ∧ H1 a = some (.ins C dx fs) ∧ fs.lookup m = none ∧
  t σ H1 fun vs H2 => sp (x :: vs) H2 Q (E σ)
theorem pe_methW {pl : Sem Bool} (he : PE X o ta) (c : Cls X.K C) (hm : Meth X.K C m f) (F : FnOk X.prog X.w X.K X.mg X.base CX k f fd ps sp) (hr : Room k X.A) (hb : Binds X.K fd ps []) (hx : ∀ σ, PassesAt CX X σ (E σ)) (ha : PA X (e :: es) t)
    (hst : starEach (e :: es) X.env = (false, eval e X.env) :: starEach es X.env := by rfl) (hpl : (backTo pos (starEach es X.env)).any (·.1) = false := by rfl)
    (ht : eval (.Call (.Attribute o m apos) (e :: es) [] pos) X.env = (do
      let ov ← eval o X.env
      standAt apos.atName
      let (f, first) ← holding [ov] (getMethod ov m pl)
      callWith pos f first (backTo pos (starEach (e :: es) X.env)) (backToKw pos (keywordEach [] X.env))) := by rfl) :
    PE X (.Call (.Attribute o m apos) (e :: es) [] pos) (tMethW C m sp E ta t) := by
  refine ⟨fun pins s σ H Q I h => ?_⟩
  refine PySem.W.methodCall_KW (pl := pl) (thn (he.run pins s σ H _ I h) fun u s1 ⟨x, H1, I1, rx, a, dx, fs, ex, ea, l, q⟩ => ?_) ht
  subst ex
  obtain rfl : u = Value.ref a := rx
  refine getmeth_ok I1 ea c hm l ?_
  refine PySem.W.callWith_K (first := [.ref a]) (h₀ := X.base) I.ok.mod.kin hm.kp (thn (ha.run pos pins s1 σ H1 _ I1 q) fun us s2 ⟨vs, H2, I2, r, q2⟩ => ⟨I2.kIn, ?_⟩) hst hpl
  exact run_fnS (us := .ref a :: us) (vs := .ref a :: vs) F hr hb (hx σ) I2 (.cons rfl r) q2
end
end L2
namespace Pm
open PySem PySem.Spec PyProof.Rows L2
section
variable {c : Cc} {O O' : Ow} {H H' : Hp} {ρ ρ' : En} {τ τ' : List (V × R)} {σ σ' : St} {v : V} {ℓ ℓ' : Lab} {ct : Ct} {X : Cx} {ek : EK} {fl : Bool}
variable {a b e : Expr} {rest : List Expr} {Ta Tb Te : TEp} {TA' TB' TT' : TTp} {pos : Pos} {T U : TSp} {TA TB : TAp} {es : List Expr} {st : Stmt} {sts : List Stmt}
structure DefX (P : Program) (w : World) (K : PySem.W.Frag) (cls : Str → Option Addr) (mg : Str → Option Value) (base : Heap) (x : Str) (n : Nat) (k : Nat) (φ : Fn) : Prop where
  ex : ∃ f fd ps, mg x = some (.ref f) ∧ PySem.W.keepIn K (.ref f) = true ∧ Binds K fd ps [] ∧ FnOk P w K mg base (L2N.CX P w) k f fd ps (spX K cls n φ)
structure MethX (P : Program) (w : World) (K : PySem.W.Frag) (cls : Str → Option Addr) (mg : Str → Option Value) (base : Heap) (nm m : Str) (n : Nat) (k : Nat) (φ : Fn) : Prop where
  ex : ∀ C, cls nm = some C → ∃ f fd ps, Cls K C ∧ Meth K C m f ∧ Binds K fd ps [] ∧ FnOk P w K mg base (L2N.CX P w) k f fd ps (spX K cls n φ)
theorem call_okX {φ : Fn} {ms : List Bool} {rs : List R} {vs : List V} {n : Nat} {R0 : R → En → Prop} {E0 : Exn → En → Prop} {Q : VK} {E : XK} (hfl : ms.all (fun b => !b) = true ∨ NoAlf τ) (hn : ms.length = n) (hl : vs.length = rs.length)
    (S : Sim c ρ (tmps τ vs rs) σ H) (h : callK φ ms [] rs ρ R0 E0) (hE : ∀ cv d H', exW c τ E0 cv d σ H' → E cv d H') (hQ : ∀ r ρ' v H', R0 r ρ' → Sim c ρ' ((v, r) :: τ) σ H' → Q v H') : spX c.K c.cls n φ vs H Q E := by
  obtain ⟨O, S⟩ := S
  unfold callK at h
  split at h
  · rename_i xs ρ1 e1
    obtain ⟨hnd, how, hφ⟩ := h
    obtain ⟨O1, S1, A1, _⟩ := fzM_ok hl S e1
    have lx : xs.length = ms.length := fzM_len e1
    have hb : ms.all (fun b => !b) = true → brs xs = [] := fun hm => fzM_brs hm e1
    subst hn
    have := call_coreX (n := ms.length) (dcs := []) (dvs := []) (fun v i f m z => hfl.elim (fun h => by rw [hb h] at z; cases z) fun h => h v i f m) (fun _ _ => Rps.nil) (by simp; omega) S1 A1 hnd how hφ hE hQ
    rw [List.append_nil] at this
    exact this
  · exact h.elim
theorem passF {E : XK} (hE : ∀ a b c, ¬ E a b c) : Passes (L2N.CX X.prog X.w) X E := fun _ _ _ _ _ _ _ ⟨_, _, _, _, _, _, _, _, _, _, _, _, z⟩ => (hE _ _ _ z).elim
/-- a call that does not raise -/
theorem p_callN {x : Str} {n k k' : Nat} {φ : Fn} {p : Pos} (ms : List Bool) (F : DefX X.prog X.w X.K c.cls X.mg X.base x n k φ) (hr : Room k' X.A) (hk : k ≤ k') (ha : PAp c ek0 fl X (e :: es) TA) (hfl : (ms.all (fun b => !b) || fl) = true := by rfl) (hn : ms.length = n := by rfl) (hg : Gl X x := by rfl) (hK : X.K = c.K := by rfl)
    (hdb : (x == ("__debug__" : Str)) = false := by decide) (he : starEach (e :: es) X.env = (false, eval e X.env) :: starEach es X.env := by rfl) (hpl : (backTo pos (starEach es X.env)).any (·.1) = false := by rfl) :
    PEp c ek0 fl X (.Call (.Name x p) (e :: es) [] pos) (tCall φ ms [] TA) := by
  obtain ⟨f, fd, ps, hm, hkp, hb, F⟩ := F.ex
  rw [hK] at F
  refine ⟨fun pins s σ H Q I h => ?_⟩
  obtain ⟨ρ, τ, R0, E0, S, hT, hQ, hE⟩ := h
  have F' : FnOk X.prog X.w X.K X.mg X.base (L2N.CX X.prog X.w) k f fd ps (spX c.K c.cls n φ) := by rw [hK]; exact F
  refine (pe_call (E := fun _ _ _ => False) F' (hr.mono hk) hg hm hkp hb (dvs := []) .nil (passF fun _ _ _ z => z) ha hdb he hpl).run pins s σ H Q I ⟨ρ, τ, _, E0, S, hT, fun rs ρ1 vs H1 h1 hl S1 => ?_, hE⟩
  show spX c.K c.cls n φ (vs ++ []) H1 Q _
  rw [List.append_nil]
  refine call_okX ?_ hn hl S1 h1 (fun cv d H' ⟨x, ρ, _, _, z, _⟩ => hE.1 x ρ z) hQ
  rcases (by simpa using hfl : (∀ x ∈ ms, x = false) ∨ fl = true) with z | z
  · left; simpa using z
  · right; exact hE.2 z
/-! ### expressions that may raise -/
def rdE (c : Cc) (X : Cx) (T : TEp) : TE := fun σ H Q => ∃ ρ τ R0 E0, Sim c ρ τ σ H ∧ T ρ R0 E0 ∧ (∀ r ρ' v H', R0 r ρ' → Sim c ρ' ((v, r) :: τ) σ H' → Q v H') ∧ L2N.Takes X (exW c τ E0) ∧ NoAlf τ
abbrev PEx (c : Cc) (X : Cx) (e : Expr) (T : TEp) : Prop := PE X e (rdE c X T)
def tCallX (φ : Fn) (ms : List Bool) (TA : TAp) : TEp := fun ρ R E => TA ρ (fun rs ρ1 => callK φ ms [] rs ρ1 R E) fun _ _ => False
theorem p_callX {x : Str} {n k k' : Nat} {φ : Fn} {p : Pos} (ms : List Bool) (F : DefX X.prog X.w X.K c.cls X.mg X.base x n k φ) (hr : Room k' X.A) (hk : k ≤ k') (ha : PAp c ek0 true X (e :: es) TA) (hn : ms.length = n := by rfl) (hg : Gl X x := by rfl) (hK : X.K = c.K := by rfl)
    (hdb : (x == ("__debug__" : Str)) = false := by decide) (he : starEach (e :: es) X.env = (false, eval e X.env) :: starEach es X.env := by rfl) (hpl : (backTo pos (starEach es X.env)).any (·.1) = false := by rfl) :
    PEx c X (.Call (.Name x p) (e :: es) [] pos) (tCallX φ ms TA) := by
  obtain ⟨f, fd, ps, hm, hkp, hb, F⟩ := F.ex
  rw [hK] at F
  refine ⟨fun pins s σ H Q I h => ?_⟩
  obtain ⟨ρ, τ, R0, E0, S, hT, hQ, hE, nal⟩ := h
  have F' : FnOk X.prog X.w X.K X.mg X.base (L2N.CX X.prog X.w) k f fd ps (spX c.K c.cls n φ) := by rw [hK]; exact F
  refine (pe_callS (E := WE (exW c τ E0)) F' (hr.mono hk) hg hm hkp hb (fun σ => L2N.passAt hE σ) ha hdb he hpl).run pins s σ H Q I ⟨ρ, τ, _, _, S, hT, fun rs ρ1 vs H1 h1 hl S1 => ?_, ek0_no, fun _ => nal⟩
  exact call_okX (.inr nal) hn hl S1 h1 (fun cv d H' z => z) hQ
def tMeX (nm : Str) (i : Nat) (m : Str) (φ : Fn) (ms : List Bool) (TA : TAp) : TEp := fun ρ R E => match ρ[i]? with
  | some (.ob nm' fs) => nm' = nm ∧ fs.lookup m = none ∧ TA ρ (fun rs ρ1 => callK φ (true :: ms) [] (.al i :: rs) ρ1 R E) (fun _ _ => False)
  | _ => False
section
variable {nm m x : Str} {n k k' : Nat} {φ : Fn} {p apos : Pos}
theorem p_meX (i : Nat) (ms : List Bool) (F : MethX X.prog X.w X.K c.cls X.mg X.base nm m n k φ) (hb : i < c.nb) (hr : Room k' X.A) (hk : k ≤ k') (ha : PAp c ek0 true X (e :: es) TA) (hn : ms.length + 1 = n := by rfl)
    (hN : X.N[i]? = some x := by rfl) (hv : Vis X.env.scope x := by first | exact Or.inl rfl | exact Or.inr (Or.inl rfl) | exact Or.inr (Or.inr rfl)) (hd : (x == ("__debug__" : Str)) = false := by decide) (hcd : (x == ("__classdict__" : Str)) = false := by decide) (hK : X.K = c.K := by rfl)
    (hst : starEach (e :: es) X.env = (false, eval e X.env) :: starEach es X.env := by rfl) (hpl : (backTo pos (starEach es X.env)).any (·.1) = false := by rfl) {pl : Sem Bool}
    (ht : eval (.Call (.Attribute (.Name x p) m apos) (e :: es) [] pos) X.env = (do
      let ov ← eval (.Name x p) X.env
      standAt apos.atName
      let (f, first) ← holding [ov] (getMethod ov m pl)
      callWith pos f first (backTo pos (starEach (e :: es) X.env)) (backToKw pos (keywordEach [] X.env))) := by rfl) :
    PEx c X (.Call (.Attribute (.Name x p) m apos) (e :: es) [] pos) (tMeX nm i m φ ms TA) := by
  refine ⟨fun pins s σ H Q I h => ?_⟩
  obtain ⟨ρ, τ, R0, E0, ⟨O, S⟩, hT, hQ, hE, nal⟩ := h
  unfold tMeX at hT
  split at hT
  · rename_i nm' fs e0
    obtain ⟨hnm, hl, hT⟩ := hT
    subst hnm
    obtain ⟨x1, dx, C, vfs, e1, o, kc, hx, r⟩ := S.obj e0
    obtain ⟨f, fd, ps, hC, hM, hbd, F⟩ := F.ex C kc
    rw [hK] at F
    have F' : FnOk X.prog X.w X.K X.mg X.base (L2N.CX X.prog X.w) k f fd ps (spX c.K c.cls n φ) := by rw [hK]; exact F
    have S' : Sim c ρ ((.ref x1, .al i) :: τ) σ H := ⟨O, S.len, S.fr, S.ow, S.zt, S.io, S.sl, ⟨hb, e1⟩, S.tm⟩
    refine (pe_methW (E := WE (exW c τ E0)) (pe_var hN hv hd hcd) hC hM F' (hr.mono hk) hbd (fun σ => L2N.passAt hE σ) ha hst hpl ht).run pins s σ H Q I ⟨_, e1, x1, dx, vfs, rfl, hx, r.none_get hl, ρ, (.ref x1, .al i) :: τ, _, _, S', hT, fun rs ρ1 vs H1 h1 hlen S1 => ?_, ek0_no, fun z v j g m => ?_⟩
    · exact call_okX (τ := τ) (vs := .ref x1 :: vs) (rs := .al i :: rs) (.inr nal) (by simp only [List.length_cons]; omega) (by simp [hlen]) S1 h1 (fun cv d H' z => z) hQ
    · rcases List.mem_cons.mp m with q | m
      · cases q
      · exact nal v j g m
  · exact hT.elim
/-- such a call, not raising -/
theorem p_meN (i : Nat) (ms : List Bool) (F : MethX X.prog X.w X.K c.cls X.mg X.base nm m n k φ) (hb : i < c.nb) (hr : Room k' X.A) (hk : k ≤ k') (ha : PAp c ek0 true X (e :: es) TA) (hn : ms.length + 1 = n := by rfl)
    (hN : X.N[i]? = some x := by rfl) (hv : Vis X.env.scope x := by first | exact Or.inl rfl | exact Or.inr (Or.inl rfl) | exact Or.inr (Or.inr rfl)) (hd : (x == ("__debug__" : Str)) = false := by decide) (hcd : (x == ("__classdict__" : Str)) = false := by decide) (hK : X.K = c.K := by rfl)
    (hst : starEach (e :: es) X.env = (false, eval e X.env) :: starEach es X.env := by rfl) (hpl : (backTo pos (starEach es X.env)).any (·.1) = false := by rfl) {pl : Sem Bool}
    (ht : eval (.Call (.Attribute (.Name x p) m apos) (e :: es) [] pos) X.env = (do
      let ov ← eval (.Name x p) X.env
      standAt apos.atName
      let (f, first) ← holding [ov] (getMethod ov m pl)
      callWith pos f first (backTo pos (starEach (e :: es) X.env)) (backToKw pos (keywordEach [] X.env))) := by rfl) :
    PEp c ek0 true X (.Call (.Attribute (.Name x p) m apos) (e :: es) [] pos) (tMe nm i m φ ms [] TA) := by
  refine ⟨fun pins s σ H Q I h => ?_⟩
  obtain ⟨ρ, τ, R0, E0, S, hT, hQ, hE, nal⟩ := h
  have no : ∀ cv d σ H, ¬ exW c τ E0 cv d σ H := fun cv d σ H ⟨x, ρ, _, _, z, _⟩ => hE x ρ z
  refine (p_meX i ms F hb hr hk ha hn hN hv hd hcd hK hst hpl ht).run pins s σ H Q I ⟨ρ, τ, R0, E0, S, ?_, hQ, takesN0.imp no, nal rfl⟩
  unfold tMe at hT
  unfold tMeX
  split at hT
  · rename_i nm' fs e0
    try rw [e0]
    obtain ⟨a, b, hT⟩ := hT
    refine ⟨a, b, ?_⟩
    have : E0 = fun _ _ => False := funext fun x => funext fun ρ => propext ⟨fun z => hE x ρ z, False.elim⟩
    rw [this] at hT ⊢
    exact hT
  · exact hT.elim
end
/-! ### statements with such expressions -/
theorem NoAl.alf' (n : NoAl τ) : NoAlf τ := n.alf
theorem x_set (j : Nat) {x : Str} {pos' : Pos} (hN : X.N.Nodup) (he : PEx c X e Te) (hj : j ∉ c.lock) (hi : X.N[j]? = some x := by rfl) (hx : Loc X.env.scope x := by first | exact Or.inl rfl | exact Or.inr rfl)
    (hs : swapsWith e (some (.Name x pos')) pos.line X.env = pure false := by rfl) (hf : X.fn x = true ∨ X.env.scope.names.lookup x = some .local := by first | exact .inl rfl | exact .inr rfl) : PSx c X (.Assign [.Name x pos'] e pos) (sSet j Te) := by
  refine ⟨fun pins s σ H D I h => ?_⟩
  obtain ⟨ρ, τ, E, S, n, hT, q1, q2, q3, q4, q5⟩ := h
  refine (ps_set hN hi hx he hs hf).run pins s σ H D I ⟨ρ, τ, _, _, S, hT, fun r ρ' v H' h1 S1 => ?_, q5, n.alf⟩
  obtain ⟨ct, ρ2, h2, O, S2⟩ := stC_ok S1 h1
  exact q1 _ _ _ h2 (S2.put n hj)
theorem x_exp (he : PEx c X e Te) (hs : swapsWith e none pos.line X.env = pure false := by rfl) : PSx c X (.Expr e pos) (sExp Te) := by
  refine ⟨fun pins s σ H D I h => ?_⟩
  obtain ⟨ρ, τ, E, S, n, hT, q1, q2, q3, q4, q5⟩ := h
  exact (ps_expr he hs).run pins s σ H D I ⟨ρ, τ, _, _, S, hT, fun r ρ' v H' h1 S1 => q1 _ _ _ h1 S1.pop, q5, n.alf⟩
end
end Pm

namespace Pm
open PySem PySem.Spec PyProof.Rows L2
section
variable {c : Cc} {O O' : Ow} {H H' : Hp} {ρ ρ' : En} {τ τ' : List (V × R)} {σ σ' : St} {v : V} {ℓ ℓ' : Lab} {ct : Ct} {X : Cx} {ek : EK} {fl : Bool}
variable {a b e : Expr} {rest : List Expr} {Ta Tb Te : TEp} {TA' TB' TT' : TTp} {pos : Pos} {T U : TSp} {TA TB : TAp} {es : List Expr} {st : Stmt} {sts : List Stmt}
/-! ### a caught error -/
/-- slot i holds the error at a; its dict dd has the field f -/
def Cc.su (c : Cc) (i : Nat) (a dd : Addr) (f : Str) (v : V) : Cc := ⟨c.K, c.cls, c.Z, fun b => if b = dd then some (.xd [(f, v)]) else c.H0 b, fun b => c.I b ∧ b ≠ dd, (i, a) :: c.io, i :: c.lock, c.nb⟩
theorem Sim0.su {i : Nat} {ad dd : Addr} {f : Str} {w : V} (S : Sim0 c H O ρ τ σ) (hi : σ[i]? = some (some (.ref ad))) (hd : H dd = some (.xd [(f, w)])) (ho : O dd = none) : Sim0 (c.su i ad dd f w) H O ρ τ σ := by
  refine ⟨S.len, fun b o h1 h2 => ?_, fun b l h1 => ?_, S.zt, fun p hp => ?_, fun j ct q n => ?_, ?_⟩
  · have h1 : (if b = dd then some (HO.xd [(f, w)]) else c.H0 b) = some o := h1
    by_cases e : b = dd
    · rw [if_pos e] at h1; rw [e, hd]; exact h1
    · rw [if_neg e] at h1; exact S.fr b o h1 (fun z => h2 ⟨z, e⟩)
  · obtain ⟨z1, z2, z3⟩ := S.ow b l h1
    have e : b ≠ dd := fun e => by rw [e, ho] at h1; cases h1
    refine ⟨z1, ?_, z3⟩
    show (if b = dd then some (HO.xd [(f, w)]) else c.H0 b) = none ∨ (c.I b ∧ b ≠ dd)
    rw [if_neg e]; exact z2.elim .inl fun z => .inr ⟨z, e⟩
  · rcases List.mem_cons.mp hp with e | hp
    · subst e; exact ⟨List.mem_cons_self, hi⟩
    · exact ⟨List.mem_cons_of_mem _ (S.io p hp).1, (S.io p hp).2⟩
  · obtain ⟨u, e1, e2⟩ := S.sl j ct q n
    exact ⟨u, e1, COk.ctx rfl rfl (fun _ => Iff.rfl) e2⟩
  · have := TOk.ext (c := c) (c' := c.su i ad dd f w) (l := []) rfl rfl (fun _ => Iff.rfl) (Nat.le_refl _) S.tm
    rw [List.append_nil] at this
    exact this
theorem Sim0.unsu {i : Nat} {ad dd : Addr} {f : Str} {w : V} (S : Sim0 (c.su i ad dd f w) H O ρ τ σ) (hn : c.H0 dd = none ∨ c.I dd) (io0 : ∀ p ∈ c.io, p.1 ∈ c.lock) : Sim0 c H O ρ τ σ := by
  refine ⟨S.len, fun b o h1 h2 => ?_, fun b l h1 => ?_, S.zt, fun p hp => ?_, fun j ct q n => ?_, ?_⟩
  · have e : b ≠ dd := fun e => by
      rw [e] at h1 h2
      rcases hn with z | z
      · rw [z] at h1; cases h1
      · exact h2 z
    exact S.fr b o (by show (if b = dd then _ else c.H0 b) = some o; rw [if_neg e]; exact h1) fun z => h2 z.1
  · obtain ⟨z1, z2, z3⟩ := S.ow b l h1
    refine ⟨z1, ?_, z3⟩
    have z2 : (if b = dd then some (HO.xd [(f, w)]) else c.H0 b) = none ∨ (c.I b ∧ b ≠ dd) := z2
    by_cases e : b = dd
    · rw [if_pos e] at z2
      rcases z2 with z2 | z2
      · cases z2
      · exact .inr z2.1
    · rw [if_neg e] at z2; exact z2.elim .inl fun z => .inr z.1
  · exact ⟨io0 p hp, (S.io p (List.mem_cons_of_mem _ hp)).2⟩
  · obtain ⟨u, e1, e2⟩ := S.sl j ct q n
    exact ⟨u, e1, COk.ctx rfl rfl (fun _ => Iff.rfl) e2⟩
  · have := TOk.ext (c := c.su i ad dd f w) (c' := c) (l := []) rfl rfl (fun _ => Iff.rfl) (Nat.le_refl _) S.tm
    rw [List.append_nil] at this
    exact this
/-- a slot is forgotten -/
theorem Sim0.setNo {j : Nat} {w : Option V} (S : Sim0 c H O ρ τ σ) (n : NoAl τ) (hj : j ∉ c.lock) : Sim0 c H O (ρ.set j .no) τ (σ.set j w) := by
  refine ⟨by rw [List.length_set, List.length_set]; exact S.len, S.fr, S.ow, S.zt, fun p hp => ⟨(S.io p hp).1, ?_⟩, fun i ct' q hn => ?_, n.tok S.tm⟩
  · rw [List.getElem?_set_ne (fun z => hj (by rw [z]; exact (S.io p hp).1))]
    exact (S.io p hp).2
  · by_cases hij : i = j
    · subst hij
      by_cases hl : i < ρ.length
      · rw [List.getElem?_set_self hl] at q; cases q; exact absurd rfl hn
      · rw [List.getElem?_eq_none (by simpa using hl)] at q; cases q
    · rw [List.getElem?_set_ne (Ne.symm hij)] at q
      obtain ⟨u, e1, e2⟩ := S.sl i ct' q hn
      exact ⟨u, by rw [List.getElem?_set_ne (Ne.symm hij)]; exact e1, e2⟩
/-! ### try: body, except C as n: suite -/
def suE (i : Nat) (E : Ep) : Ep := ⟨fun ρ => E.nx (ρ.set i .no), E.rt, fun ρ => E.bk (ρ.set i .no), fun ρ => E.ct (ρ.set i .no), E.ex⟩
def trE (i : Nat) (ca : Str → Option Bool) (Ts : Exn → TSp) (E : Ep) : Ep := ⟨E.nx, E.rt, E.bk, E.ct, fun x ρ' => match ca x.nm with
  | some true => i < ρ'.length ∧ Ts x (ρ'.set i .no) (suE i E)
  | _ => False⟩
def sTry (i : Nat) (ca : Str → Option Bool) (Tb : TSp) (Ts : Exn → TSp) : TSp := fun ρ E => Tb ρ (trE i ca Ts E)
theorem s_try (i : Nat) {x n : Str} {body suite : List Stmt} {b₀ : Stmt} {np pos' : Pos} {cv : Value} {ca : Str → Option Bool} {Tb : TSp} {Ts : Exn → TSp} (hs : X.stack = X.env :: X.outer) (hf : X.env.frame = some X.env.locals) (hN : X.N.Nodup) (hc : Names X x cv)
    (hca : ∀ nm C b, c.cls nm = some C → ca nm = some b → PySem.W.exmOne X.K (.ref C) cv = some b) (hil : i ∉ c.lock)
    (hb : ∀ (pn : List (Addr × Obj)) (xe : Value → Shared → Prop), PassesOwn (model X.prog X.w) X.A X.env xe → PSsx c (X.tr pn xe) body Tb)
    (hsu : ∀ (a : Addr) (oe : Obj) (pn : List (Addr × Obj)) (y : Exn) (C dd : Addr) (f : Str) (dv : D) (v : V), L2N.Zn (.ref C) (some dd) oe → (∃ vs, oe.data = .fields vs) → c.cls y.nm = some C → y.fs = [(f, dv)] → flD dv = some v → ExI c.K C f →
      PSsp (c.su i a dd f v) ek0 (X.suite a ((a, oe) :: pn)) (b₀ :: suite) (Ts y))
    (hi : X.N[i]? = some n := by rfl) (hln : X.env.kindOf n = some .local := by rfl) :
    PSp c ek0 X (.Try body [.ExceptHandler (some (.Name x np)) (some n) (b₀ :: suite) pos'] [] [] pos) (sTry i ca Tb Ts) := by
  refine ⟨fun pins s σ H DE I h => ?_⟩
  obtain ⟨ρ, τ, E, S, nal, hT, q1, q2, q3, q4, q5⟩ := h
  have io0 : ∀ p ∈ c.io, p.1 ∈ c.lock := fun p hp => let ⟨_, S⟩ := S; (S.io p hp).1
  refine (L2N.ps_try_as (i := i) (Wout := fun _ _ _ _ => False) (tb := fun W D σ H => ∃ ρ τ E, Sim c ρ τ σ H ∧ NoAl τ ∧ Tb ρ E ∧ (∀ ρ' σ' H', E.nx ρ' → Sim c ρ' τ σ' H' → D.nx σ' H') ∧ (∀ ρ' σ' H', E.bk ρ' → Sim c ρ' τ σ' H' → D.bk σ' H') ∧
      (∀ ρ' σ' H', E.ct ρ' → Sim c ρ' τ σ' H' → D.ct σ' H') ∧ (∀ r ρ' v σ' H', E.rt r ρ' → Sim c ρ' ((v, r) :: τ) σ' H' → D.rt v H') ∧ ∀ cv d σ H, exW c τ E.ex cv d σ H → W cv d σ H)
    (ts := fun a cls d => fun DD σ H => ∃ (y : Exn) (C dd : Addr) (f : Str) (dv : D) (v : V), cls = .ref C ∧ d = some dd ∧ c.cls y.nm = some C ∧ y.fs = [(f, dv)] ∧ flD dv = some v ∧ ExI c.K C f ∧ rdS (c.su i a dd f v) ek0 (Ts y) DD σ H) hs hf hN hi hln hc takesN0 (fun W pn xe tk po => ?_) (fun a oe cls d pn hz hfi => ?_)).run pins s σ H DE I ?_
  · refine ⟨fun pins s σ H D I h => ?_⟩
    obtain ⟨ρ, τ, E, S, nal, hT, q1, q2, q3, q4, q6⟩ := h
    exact (hb pn xe po).run pins s σ H D I ⟨ρ, τ, E, S, nal, hT, q1, q2, q3, q4, tk.imp q6⟩
  · refine ⟨fun pins s σ H D I h => ?_⟩
    obtain ⟨y, C, dd, f, dv, v, rfl, rfl, h1, h2, h3, h5, h4⟩ := h
    exact (hsu a oe pn y C dd f dv v hz hfi h1 h2 h3 h5).run pins s σ H D I h4
  · refine ⟨ρ, τ, _, S, nal, hT, q1, q2, q3, q4, fun cv' d σ' H' z => ?_⟩
    obtain ⟨y, ρ', O', dd, hx, S', ⟨C, f, dv, v, e1, e2, e3, rfl, rfl, e4, xi⟩, ho, hn⟩ := z
    have hx : (match ca y.nm with | some true => i < ρ'.length ∧ Ts y (ρ'.set i .no) (suE i E) | _ => False) := hx
    split at hx
    · rename_i hcy
      refine ⟨true, hca _ _ _ e3 hcy, fun _ a ha => ⟨y, C, dd, f, dv, v, rfl, rfl, e3, e1, e2, xi, ?_⟩, fun z => by cases z⟩
      have S2 := S'.setNo (w := some (.ref a)) nal hil
      have hsl : (σ'.set i (some (V.ref a)))[i]? = some (some (.ref a)) := by
        have hlt : i < σ'.length := by rw [S'.len]; exact hx.1
        rw [List.getElem?_set_self hlt]
      have S3 := S2.su hsl e4 ho
      refine ⟨ρ'.set i .no, τ, suE i E, ⟨O', S3⟩, nal, hx.2, fun ρ2 σ2 H2 e S4 => ?_, fun ρ2 σ2 H2 e S4 => ?_, fun ρ2 σ2 H2 e S4 => ?_, fun r ρ2 v2 σ2 H2 e S4 => ?_, fun _ => q5 σ⟩
      · obtain ⟨O4, S4⟩ := S4
        exact q1 _ _ _ e ⟨O4, (S4.unsu hn io0).setNo nal hil⟩
      · obtain ⟨O4, S4⟩ := S4
        exact q2 _ _ _ e ⟨O4, (S4.unsu hn io0).setNo nal hil⟩
      · obtain ⟨O4, S4⟩ := S4
        exact q3 _ _ _ e ⟨O4, (S4.unsu hn io0).setNo nal hil⟩
      · obtain ⟨O4, S4⟩ := S4
        exact q4 _ _ _ _ _ e ⟨O4, S4.unsu hn io0⟩
    · exact hx.elim
/-! ### what the suite asks of the error -/
/-- e.f -/
def tEA (y : Exn) (f : Str) : TEp := fun ρ R _ => match y.fs.lookup f with
  | some d => R (.va (Fz d)) ρ
  | none => False
section
variable {i : Nat} {n : Str} {ad dd C : Addr} {f : Str} {dv : D} {w : V} {oe : Obj} {pn : List (Addr × Obj)} {y : Exn} {np : Pos}
theorem inst_su {s : Shared} {pins : List (Addr × Obj)} (hz : L2N.Zn (.ref C) (some dd) oe) (hf : ∃ vs, oe.data = .fields vs) (I : Inv (X.suite ad ((ad, oe) :: pn)) pins σ H s) (e : H dd = some (.xd [(f, w)])) :
    ∃ (od : Obj) (mA : Str → Option Value), PySem.W.InstAt s.heap ad oe C (some od) ∧ (∀ g, RelO ([(f, w)].lookup g) (mA g)) ∧ ∀ g, PySem.W.lookIn g od = some (mA g) := by
  obtain ⟨ha, _⟩ := I.pin (ad, oe) (List.mem_append_left _ List.mem_cons_self)
  obtain ⟨vs, hd⟩ := hf
  obtain ⟨mA, hns, hr⟩ := (show ObjOk X.prog X.w H s.heap dd (.xd [(f, w)]) from I.hok dd _ e)
  obtain ⟨od, ho, hl⟩ := lookIn_ns hns
  exact ⟨od, mA, ⟨ha, hz.1, by unfold PySem.W.notCls; rw [hd] <;> rfl, by rw [hz.2.1]; exact ho⟩, hr, hl⟩
theorem p_ea (hz : L2N.Zn (.ref C) (some dd) oe) (hf : ∃ vs, oe.data = .fields vs) (hfs : y.fs = [(f, dv)]) (hfl : flD dv = some w) (xi : ExI c.K C f) (g : Str) (hK : X.K = c.K := by rfl)
    (hN : X.N[i]? = some n := by rfl) (hv : Vis X.env.scope n := by first | exact Or.inl rfl | exact Or.inr (Or.inl rfl) | exact Or.inr (Or.inr rfl)) (hd : (n == ("__debug__" : Str)) = false := by decide) (hcd : (n == ("__classdict__" : Str)) = false := by decide)
    (hb : attributeBase (.Name n np) g X.env (eval (.Name n np) X.env) = eval (.Name n np) X.env := by rfl) :
    PEp (c.su i ad dd f w) ek fl (X.suite ad ((ad, oe) :: pn)) (.Attribute (.Name n np) g pos) (tEA y g) := by
  refine ⟨fun pins s σ H Q I h => ?_⟩
  obtain ⟨ρ, τ, R0, E0, ⟨O, S⟩, hT, hQ, hE⟩ := h
  unfold tEA at hT
  rw [hfs] at hT
  by_cases hg : g = f
  · subst hg
    have e0 : List.lookup g [(g, dv)] = some dv := by simp [List.lookup]
    rw [e0] at hT
    have e1 := (S.io (i, ad) List.mem_cons_self).2
    have e2 : H dd = some (.xd [(g, w)]) := S.fr dd _ (by show (if dd = dd then _ else _) = _; rw [if_pos rfl]) fun z => z.2 rfl
    refine attr_of hb (thn ((pe_var (X := X.suite ad ((ad, oe) :: pn)) hN hv hd hcd).run pins s σ H (fun x H1 => x = .ref ad ∧ H1 = H) I ⟨_, e1, rfl, rfl⟩) fun u s1 hh => ?_)
    obtain ⟨x, H1, I1, rx, rfl, rfl⟩ := hh
    obtain rfl : u = Value.ref ad := rx
    obtain ⟨od, mA, J, hr, hl⟩ := inst_su hz hf I1 e2
    have l : List.lookup g [(g, w)] = some w := by simp [List.lookup]
    obtain ⟨u, hu, ru⟩ := RelO.some_of (v := w) (o := mA g) (by rw [← l]; exact hr g)
    have xi' : ExI X.K C g := by rw [hK]; exact xi
    exact HandSPX.exc_get I1.kIn J xi'.ga xi'.gg xi'.ex (PySem.W.findObj_own xi'.hd xi'.no rfl (by rw [hl, hu])) (handed_of ru) ⟨w, H1, I1.tok _, ru, hQ _ _ _ _ hT ⟨O, S.push (ct := Fz dv) (flD_rp hfl)⟩⟩
  · have e0 : List.lookup g [(f, dv)] = none := by
      have : (g == f) = false := by simpa using hg
      simp [List.lookup, this]
    rw [e0] at hT
    exact hT.elim
/-- isinstance(e, c) -/
def ClsW (c : V) (u : Value) : Prop := ∀ u', RelV c u' → u' = u
theorem ClsW.all : ∀ {cs : List V} {us ws : List Value}, Paired ClsW cs us → Vals cs ws → ws = us
  | _, _, _, .nil, .nil => rfl
  | _, _, _, .cons c k, .cons r t => by
    have h1 := c _ r
    have h2 := ClsW.all k t
    rw [h1, h2]
theorem ClsW.ref {a : Addr} : ClsW (.ref a) (.ref a) := fun u h => h
theorem ClsW.ty {n : String} : ClsW (.ty n) (.type n) := fun u h => h
def rIsX (K : PySem.W.Frag) (D ad dd : Addr) (f : Str) (w : V) : List V → Hp → VK → Prop := fun xs H Q => ∃ (c : V) (cv : Value) (b : Bool), xs = [.ref ad, c] ∧ H dd = some (.xd [(f, w)]) ∧ ClsW c cv ∧ PySem.W.kitOne K (.ref D) cv = some b ∧ Q (.bl b) H
def rIsXT (K : PySem.W.Frag) (D ad dd : Addr) (f : Str) (w : V) : List V → Hp → VK → Prop := fun xs H Q => ∃ (tp : Addr) (cs : List V) (us : List Value) (b : Bool), xs = [.ref ad, .ref tp] ∧ H dd = some (.xd [(f, w)]) ∧ H tp = some (.tup cs) ∧ Paired ClsW cs us ∧ PySem.W.kitAny K (.ref D) us = some b ∧ Q (.bl b) H
theorem kit_su {s : Shared} {od : Obj} (xi : ExI X.K C f) : PySem.W.KitX X.K (.ref ad) (.ref C) (fun h => PySem.W.InstAt h ad oe C (some od)) := by
  obtain ⟨cd, hc, _⟩ := PySem.W.any_some xi.hd
  exact PySem.W.kitx_exc (by rw [hc]; rfl) xi.ga xi.gg xi.ex xi.ha xi.hn xi.ht xi.hm
theorem call_isX (hz : L2N.Zn (.ref C) (some dd) oe) (hf : ∃ vs, oe.data = .fields vs) (xi : ExI X.K C f) : CallR (X.suite ad ((ad, oe) :: pn)) (.builtin "isinstance") (rIsX X.K C ad dd f w) := by
  intro pins s σ H xs us Q I r h
  obtain ⟨c, cv, b, rfl, e2, hcv, e, q⟩ := h
  obtain ⟨u1, u2, rfl, r1, r2⟩ := vals2 r
  cases (show u1 = Value.ref ad from r1)
  have e3 := hcv _ r2
  subst e3
  obtain ⟨od, mA, J, _⟩ := inst_su hz hf I e2
  exact PySem.W.kia_one (kit_su (s := s) (od := od) xi) I.kIn J e (fun z => nomatch z) fun tk => ⟨.bl b, H, I.tok tk, rfl, q⟩
theorem call_isXT (hz : L2N.Zn (.ref C) (some dd) oe) (hf : ∃ vs, oe.data = .fields vs) (xi : ExI X.K C f) : CallR (X.suite ad ((ad, oe) :: pn)) (.builtin "isinstance") (rIsXT X.K C ad dd f w) := by
  intro pins s σ H xs us Q I r h
  obtain ⟨tp, cs, ws, b, rfl, e2, hT, k, e, q⟩ := h
  obtain ⟨u1, u2, rfl, r1, r2⟩ := vals2 r
  cases (show u1 = Value.ref ad from r1)
  cases (show u2 = Value.ref tp from r2)
  obtain ⟨od, mA, J, _⟩ := inst_su hz hf I e2
  obtain ⟨_, its, rv, o, h1, h2, n, h3⟩ := (show ObjOk X.prog X.w H s.heap tp (.tup cs) from I.hok tp _ hT)
  have e3 := ClsW.all k rv
  subst e3
  obtain ⟨oc, od', dt, sl⟩ := o
  simp only at h2 h3
  subst h2 h3
  exact PySem.W.kia_tup (kit_su (s := s) (od := od) xi) I.kIn J h1 e (fun z => nomatch z) fun tk => ⟨.bl b, H, I.tok tk, rfl, q⟩
def tEI (tb : Str → Option Bool) (y : Exn) : TEp := fun ρ R _ => match tb y.nm with
  | some b => R (.va (Fz (.bl b))) ρ
  | none => False
theorem su_xd {O : Ow} (S : Sim0 (c.su i ad dd f w) H O ρ τ σ) : H dd = some (.xd [(f, w)]) := S.fr dd _ (by show (if dd = dd then _ else _) = _; rw [if_pos rfl]) fun z => z.2 rfl
theorem p_ei {cn : Str} {p cp : Pos} {cv : Value} {vv : V} {tb : Str → Option Bool} (hz : L2N.Zn (.ref C) (some dd) oe) (hf : ∃ vs, oe.data = .fields vs) (hcl : c.cls y.nm = some C) (xi : ExI c.K C f) (h1 : X.mg "isinstance" = none)
    (hv1 : PE (X.suite ad ((ad, oe) :: pn)) (.Name cn cp) (tC vv)) (hcv : ClsW vv cv) (hk : ∀ nm C b, c.cls nm = some C → tb nm = some b → PySem.W.kitOne X.K (.ref C) cv = some b) (hK : X.K = c.K := by rfl)
    (hN : X.N[i]? = some n := by rfl) (hv : Vis X.env.scope n := by first | exact Or.inl rfl | exact Or.inr (Or.inl rfl) | exact Or.inr (Or.inr rfl)) (hd : (n == ("__debug__" : Str)) = false := by decide) (hcd : (n == ("__classdict__" : Str)) = false := by decide) (hg : Gl X "isinstance" := by rfl)
    (he : starEach [.Name n np, .Name cn cp] X.env = (false, eval (.Name n np) X.env) :: starEach [.Name cn cp] X.env := by rfl) (he2 : starEach [.Name cn cp] X.env = (false, eval (.Name cn cp) X.env) :: starEach [] X.env := by rfl) (hpl : (backTo pos (starEach [.Name cn cp] X.env)).any (·.1) = false := by rfl) :
    PEp (c.su i ad dd f w) ek fl (X.suite ad ((ad, oe) :: pn)) (.Call (.Name "isinstance" p) [.Name n np, .Name cn cp] [] pos) (tEI tb y) := by
  refine ⟨fun pins s σ H Q I h => ?_⟩
  obtain ⟨ρ, τ, R0, E0, ⟨O, S⟩, hT, hQ, hE⟩ := h
  have xi' : ExI X.K C f := by rw [hK]; exact xi
  unfold tEI at hT
  split at hT
  · rename_i b eb
    have e1 := (S.io (i, ad) List.mem_cons_self).2
    refine (pe_callB (X := X.suite ad ((ad, oe) :: pn)) (call_isX (w := w) hz hf xi') hg h1 (by decide +kernel) (pa_cons (pe_var (X := X.suite ad ((ad, oe) :: pn)) hN hv hd hcd) (pa_cons hv1 pa_nil he2) he) (by decide) (by decide) he hpl).run pins s σ H Q I ?_
    exact ⟨_, e1, vv, cv, b, rfl, su_xd S, hcv, hk _ _ _ hcl eb, hQ _ _ _ _ hT (Sim.pushFz ⟨O, S⟩ fun A => Rp.ofBl b)⟩
  · exact hT.elim
/-- the values of a row of names of classes -/
def tVs : List V → L2.TA
  | [] => tNil
  | v :: r => tCons (tC v) (tVs r)
theorem tVs_run {vs : List V} {Q : List V → Hp → Prop} (h : Q vs H) : tVs vs σ H Q := by
  induction vs generalizing Q with
  | nil => exact h
  | cons v r ih => exact ih (Q := fun xs H2 => Q (v :: xs) H2) h
theorem p_eiT {ces : List Expr} {k : Nat} {p tpos : Pos} {us : List Value} {vs : List V} {tb : Str → Option Bool} (hz : L2N.Zn (.ref C) (some dd) oe) (hf : ∃ vs, oe.data = .fields vs) (hcl : c.cls y.nm = some C) (xi : ExI c.K C f) (h1 : X.mg "isinstance" = none)
    (hces : PA (X.suite ad ((ad, oe) :: pn)) ces (tVs vs)) (hcv : Paired ClsW vs us) (hlen : vs.length ≤ 100) (hk : ∀ nm C b, c.cls nm = some C → tb nm = some b → PySem.W.kitAny X.K (.ref C) us = some b) (hK : X.K = c.K := by rfl)
    (hN : X.N[i]? = some n := by rfl) (hv : Vis X.env.scope n := by first | exact Or.inl rfl | exact Or.inr (Or.inl rfl) | exact Or.inr (Or.inr rfl)) (hd : (n == ("__debug__" : Str)) = false := by decide) (hcd : (n == ("__classdict__" : Str)) = false := by decide) (hg : Gl X "isinstance" := by rfl)
    (he : starEach [.Name n np, .Tuple ces k tpos] X.env = (false, eval (.Name n np) X.env) :: starEach [.Tuple ces k tpos] X.env := by rfl) (he2 : starEach [.Tuple ces k tpos] X.env = (false, eval (.Tuple ces k tpos) X.env) :: starEach [] X.env := by rfl) (hpl : (backTo pos (starEach [.Tuple ces k tpos] X.env)).any (·.1) = false := by rfl) :
    PEp (c.su i ad dd f w) ek fl (X.suite ad ((ad, oe) :: pn)) (.Call (.Name "isinstance" p) [.Name n np, .Tuple ces k tpos] [] pos) (tEI tb y) := by
  refine ⟨fun pins s σ H Q I h => ?_⟩
  obtain ⟨ρ, τ, R0, E0, ⟨O, S⟩, hT, hQ, hE⟩ := h
  have xi' : ExI X.K C f := by rw [hK]; exact xi
  unfold tEI at hT
  split at hT
  · rename_i b eb
    have e1 := (S.io (i, ad) List.mem_cons_self).2
    refine (pe_callB (X := X.suite ad ((ad, oe) :: pn)) (call_isXT (w := w) hz hf xi') hg h1 (by decide +kernel) (pa_cons (pe_var (X := X.suite ad ((ad, oe) :: pn)) hN hv hd hcd) (pa_cons (pe_tup hces) pa_nil he2) he) (by decide) (by decide) he hpl).run pins s σ H Q I ?_
    refine ⟨_, e1, tVs_run ⟨Nat.le_trans hlen (by rw [sizeLine_eq]; decide), fun tp htp => ?_⟩⟩
    have hx := su_xd S
    have hne : dd ≠ tp := fun z => by rw [z, htp] at hx; cases hx
    have S2 := S.new (o := .tup vs) (m := none) htp (fun z => absurd rfl z)
    exact ⟨tp, vs, us, b, rfl, by rw [upd_ne hne]; exact hx, upd_same, hcv, hk _ _ _ hcl eb, hQ _ _ _ _ hT (Sim.pushFz ⟨_, S2⟩ fun A => Rp.ofBl b)⟩
  · exact hT.elim
end
end
end Pm

namespace Pm
open PySem PySem.Spec PyProof.Rows L2
section
variable {c : Cc} {O O' : Ow} {H H' : Hp} {ρ ρ' : En} {τ τ' : List (V × R)} {σ σ' : St} {v : V} {ℓ ℓ' : Lab} {ct : Ct} {X : Cx} {ek : EK} {fl : Bool}
variable {a b e : Expr} {rest : List Expr} {Ta Tb Te : TEp} {TA' TB' TT' : TTp} {pos : Pos} {T U : TSp} {TA TB : TAp} {es : List Expr} {st : Stmt} {sts : List Stmt}
/-! ### defs called where an error is handled -/
section
variable {P : Program} {w : World} {K : PySem.W.Frag} {cls : Str → Option Addr} {mg : Str → Option Value} {base : Heap}
theorem body_spH {qual : Str} {sc : Scope} {body : List Stmt} {f : Addr} {N ps : List Str} {k m nb : Nat} {lock : List Nat} {T : TSp} {φ : Fn} (hm : N.length = ps.length + m)
    (hφ : ∀ cs R0 E0, φ cs R0 E0 → fnOf m lock T cs R0 E0)
    (hbody : ∀ (c : Cc) (cdv : Value) (A : Around) (outer : List Env) (s : Shared) (H : Hp) (E : XK) (p : Addr × Obj), c.K = K → c.cls = cls → c.lock = lock → c.nb = nb → L2H.Hot1 A p → L2H.RoomH k (A.deeper (envOfC qual sc s.heap.objs.size f cdv)) →
      PSsp c ek0 (L2H.cxH CX0 P w K mg base N qual sc f cdv A outer s H E p).nox body T) (cdv : Value) (A : Around) (outer : List Env) (s : Shared) (H : Hp) (vs : List V) (Q : VK) (E : XK) (p : Addr × Obj) (hot : L2H.Hot1 A p) (hr : L2H.RoomH k (A.deeper (envOfC qual sc s.heap.objs.size f cdv))) (h : spOf K cls ps.length φ vs H Q E) :
    ∃ t, PSs (L2H.cxH CX0 P w K mg base N qual sc f cdv A outer s H E p).nox body t ∧ t { nx := fun _ H' => Q .non H', rt := Q } (L2.start N vs) H := by
    obtain ⟨Z, cs, O, R0, E0, hl, hlc, hZ, hO, hA, hf, hQ, hE⟩ := h
    obtain ⟨hlk, hT⟩ := hφ _ _ _ hf
    refine ⟨_, hbody (ccOf K cls Z H O vs cs lock nb) cdv A outer s H E p rfl rfl rfl rfl hot hr, ?_⟩
    have st0 : ∀ i v, vs[i]? = some v → (L2.start N vs)[i]? = some (some v) := fun i v h => by
      unfold L2.start
      have hi : i < vs.length := (List.getElem?_eq_some_iff.mp h).1
      rw [List.getElem?_append_left (by simpa using hi), List.getElem?_map, h]; rfl
    have cx : ∀ {H' : Hp} {O' : Ow} {v : V} {ℓ : Lab} {ct : Ct}, COk (ccOf K cls Z H O vs cs lock nb) H' O' v ℓ ct → COk (Cc.mk0 K cls Z) H' O' v ℓ ct := fun h => COk.ctx rfl rfl (fun _ => Iff.rfl) h
    have S0 : Sim (ccOf K cls Z H O vs cs lock nb) (cs ++ List.replicate m .no) [] (L2.start N vs) H := by
      refine ⟨O, ?_, fun a o h _ => h, fun a ℓ q => ⟨(hO a ℓ q).1, .inr (by show O a ≠ none; rw [q]; simp), (hO a ℓ q).2⟩, hZ, fun p hp => ?_, fun i ct q n => ?_, trivial⟩
      · unfold L2.start
        simp only [List.length_append, List.length_map, List.length_replicate]
        omega
      · obtain ⟨j, e1, e2, ct, e3, e4⟩ := ioOf_mem hp
        have e5 : p.1 = j := by omega
        rw [e5]
        exact ⟨hlk j ct e3 e4, st0 _ _ e2⟩
      · by_cases hi : i < cs.length
        · rw [List.getElem?_append_left hi] at q
          obtain ⟨v, hv⟩ : ∃ v, vs[i]? = some v := ⟨vs[i], List.getElem?_eq_getElem (by omega)⟩
          exact ⟨v, st0 i v hv, COk.ctx rfl rfl (fun _ => Iff.rfl) (hA i v ct hv q)⟩
        · rw [List.getElem?_append_right (by omega), List.getElem?_replicate] at q
          split at q
          · cases q; exact absurd rfl n
          · cases q
    -- what a def's end hands on
    have fin : ∀ {H' : Hp} {O' : Ow} {σ' : St} {ρ' : En} {v : V} {r : Ct}, Sim0 (ccOf K cls Z H O vs cs lock nb) H' O' ρ' [] σ' → COk (ccOf K cls Z H O vs cs lock nb) H' O' v .r r → (∀ a ℓ, O' a = some ℓ → True) → R0 r (outs cs ρ') → Q v H' := fun {H' O' σ' ρ' v r} S' hr' _ h0 => by
      refine hQ _ _ _ H' O' h0 ⟨fun a o h1 h2 => S'.fr a o h1 (fun z => z h2), fun a ℓ q => ?_, cx hr', fun i u ct h1 h2 => ?_⟩
      · obtain ⟨z1, z2, z3⟩ := S'.ow a ℓ q
        exact ⟨z1, z2, z3⟩
      · rcases outs_get h2 with e | ⟨old, e1, e2, e3⟩
        · subst e; trivial
        · obtain ⟨a, ea⟩ := (hA i u old h1 e1).isRef e2
          subst ea
          have hio := (S'.io (i, a) (by have := ioOf_has (k := 0) h1 e1 e2; rw [Nat.zero_add] at this; exact this)).2
          by_cases hn : ct = .no
          · subst hn; trivial
          obtain ⟨w', e4, e5⟩ := S'.sl i ct e3 hn
          rw [hio] at e4; cases e4
          exact cx e5
    refine ⟨_, [], _, S0, fun v r m => (by cases m), hT, fun ρ' σ' H' h1 ⟨O', S'⟩ => fin S' (r := Fz .non) COk.non (fun _ _ _ => trivial) h1, fun _ _ _ z => z.elim, fun _ _ _ z => z.elim, fun r ρ' v σ' H' h1 ⟨O', S'⟩ => ?_, fun σ' x ρ z => hE _ _ z⟩
    have fz : (match fzC ρ' r with | some (d, ρ'') => R0 (Fz d) (outs cs ρ'') | none => False) → Q v H' := fun h1 => by
      split at h1
      · rename_i d ρ2 e1
        obtain ⟨O2, S2, rp, _⟩ := fzC_ok S' e1
        exact fin S2 (r := Fz d) rp (fun _ _ _ => trivial) h1
      · exact h1.elim
    cases r with
    | alf i g => exact fz h1
    | va ct =>
      have S2 := S'.pop
      have hc : COk _ H' (O'.re (.t 0) .r) v .r ct := COk.re S'.tm.1
      have ex : Ext (ccOf K cls Z H O vs cs lock nb) (fun l _ => l.1 = .t 0) O' (O'.re (.t 0) .r) H' H' := Ext.re
      refine fin (O' := O'.re (.t 0) .r) (σ' := σ') ⟨S2.len, S2.fr, S2.ow_re, S2.zt, S2.io, fun i ct' q hn => ?_, trivial⟩ hc (fun _ _ _ => trivial) h1
      obtain ⟨u, e1, e2⟩ := S2.sl i ct' q hn
      exact ⟨u, e1, e2.mono ex (fun m a z => by cases z)⟩
    | al i =>
      have h1 : (if i < cs.length then (match fzC ρ' (.al i) with | some (d, ρ') => R0 (Fz d) (outs cs ρ') | none => False) else (match ρ'[i]? with | some ct => R0 ct (outs cs ρ') | none => False)) := h1
      by_cases hi : i < cs.length
      · rw [if_pos hi] at h1; exact fz h1
      · rw [if_neg hi] at h1
        split at h1
        · rename_i ct e1
          have hv := S'.tm.1.2
          have S2 := S'.pop
          by_cases hn : ct = .no
          · subst hn
            exact fin S2 (r := .no) trivial (fun _ _ _ => trivial) h1
          obtain ⟨u, e4, e5⟩ := S2.sl i ct e1 hn
          rw [hv] at e4; cases e4
          have ex : Ext (ccOf K cls Z H O vs cs lock nb) (fun l _ => l.1 = .s i) O' (O'.re (.s i) .r) H' H' := Ext.re
          have hc : COk _ H' (O'.re (.s i) .r) v .r ct := COk.re e5
          -- the slot itself is forgotten
          have ho : outs cs ρ' = outs cs (ρ'.set i .no) := by
            apply List.ext_getElem?
            intro j
            unfold outs
            rw [List.getElem?_zipWith, List.getElem?_zipWith]
            by_cases hj : j = i
            · subst hj
              rw [List.getElem?_eq_none (show cs.length ≤ j by omega)]
            · rw [List.getElem?_set_ne (Ne.symm hj)]
          rw [ho] at h1
          refine fin (O' := O'.re (.s i) .r) (σ' := σ') ⟨by rw [List.length_set]; exact S2.len, S2.fr, S2.ow_re, S2.zt, S2.io, fun j ct' q hn' => ?_, trivial⟩ hc (fun _ _ _ => trivial) h1
          by_cases hj : j = i
          · subst hj
            by_cases hl : j < ρ'.length
            · rw [List.getElem?_set_self hl] at q; cases q; exact absurd rfl hn'
            · rw [List.getElem?_eq_none (by simpa using hl)] at q; cases q
          · rw [List.getElem?_set_ne (Ne.symm hj)] at q
            obtain ⟨u', e1', e2'⟩ := S2.sl j ct' q hn'
            exact ⟨u', e1', e2'.mono ex (fun m a z => by cases z; exact hj rfl)⟩
        · exact h1.elim

theorem fnH_ok {x qual : Str} {st : Stmt} {f : Addr} {fd : FuncData} {N ps : List Str} {k m nb : Nat} {lock : List Nat} {T : TSp} {φ : Fn} (F : Fun K x qual st f fd) (S : FnScope N ps (defScope st)) (hm : N.length = ps.length + m)
    (hφ : ∀ cs R0 E0, φ cs R0 E0 → fnOf m lock T cs R0 E0)
    (hbody : ∀ (c : Cc) (cdv : Value) (A : Around) (outer : List Env) (s : Shared) (H : Hp) (E : XK) (p : Addr × Obj), c.K = K → c.cls = cls → c.lock = lock → c.nb = nb → L2H.Hot1 A p → L2H.RoomH k (A.deeper (envOfC qual (defScope st) s.heap.objs.size f cdv)) →
      PSsp c ek0 (L2H.cxH CX0 P w K mg base N qual (defScope st) f cdv A outer s H E p).nox (defBody st) T) : L2H.FnH P w K mg base CX0 (k + 1) f fd ps (spOf K cls ps.length φ) := by
  obtain ⟨oc, od, kV, doc, pm, an, cdv, ct, osl, rfl, lk, hcd⟩ := F.ex
  exact L2H.fn_ofH lk hcd S (fun vs H Q E h => let ⟨_, _, _, _, _, h1, _⟩ := h; h1) fun A outer s H vs Q E p hot hr hsp => let ⟨t, h1, h2⟩ := body_spH hm hφ hbody cdv A outer s H vs Q E p hot hr hsp; ⟨t, h1.nox, h2⟩
end
structure DefH (P : Program) (w : World) (K : PySem.W.Frag) (cls : Str → Option Addr) (mg : Str → Option Value) (base : Heap) (x : Str) (n : Nat) (k : Nat) (φ : Fn) : Prop where
  ex : ∃ f fd ps, mg x = some (.ref f) ∧ PySem.W.keepIn K (.ref f) = true ∧ Binds K fd ps [] ∧ L2H.FnH P w K mg base CX0 k f fd ps (spOf K cls n φ)
theorem p_callHot {x : Str} {n k k' : Nat} {φ : Fn} {p : Pos} (ms : List Bool) (F : DefH X.prog X.w X.K c.cls X.mg X.base x n k φ) (hr : L2H.RoomH k' X.A) (hk : k ≤ k') (hot : L2H.HotC X) (ha : PAp c ek0 fl X (e :: es) TA) (hfl : (ms.all (fun b => !b) || fl) = true := by rfl) (hn : ms.length = n := by rfl) (hg : Gl X x := by rfl) (hK : X.K = c.K := by rfl)
    (hdb : (x == ("__debug__" : Str)) = false := by decide) (he : starEach (e :: es) X.env = (false, eval e X.env) :: starEach es X.env := by rfl) (hpl : (backTo pos (starEach es X.env)).any (·.1) = false := by rfl) :
    PEp c ek0 fl X (.Call (.Name x p) (e :: es) [] pos) (tCall φ ms [] TA) := by
  obtain ⟨f, fd, ps, hm, hkp, hb, F⟩ := F.ex
  rw [hK] at F
  refine ⟨fun pins s σ H Q I h => ?_⟩
  obtain ⟨ρ, τ, R0, E0, S, hT, hQ, hE⟩ := h
  have F' : L2H.FnH X.prog X.w X.K X.mg X.base CX0 k f fd ps (spOf c.K c.cls n φ) := by rw [hK]; exact F
  refine (L2H.pe_callH (E := fun _ => L2.E0) F' (hr.mono hk) hot hg hm hkp hb (fun σ _ _ _ _ _ _ h => h.elim) ha hdb he hpl).run pins s σ H Q I ⟨ρ, τ, _, E0, S, hT, fun rs ρ1 vs H1 h1 hl S1 => ?_, hE⟩
  have := call_ok (E := L2.E0) (dcs := []) (dvs := []) ?_ (fun _ _ => Rps.nil) hn hl S1 h1 (fun x ρ => hE.1 x ρ) hQ
  · rw [List.append_nil] at this
    exact this
  · rcases (by simpa using hfl : (∀ x ∈ ms, x = false) ∨ fl = true) with z | z
    · left; simpa using z
    · right; exact hE.2 z
theorem hot_su {ad : Addr} {oe : Obj} {pn : List (Addr × Obj)} {cl : Value} {d : Option Addr} (hz : L2N.Zn cl d oe) (hf : ∃ vs, oe.data = .fields vs) : L2H.HotC (X.suite ad ((ad, oe) :: pn)) := by
  obtain ⟨vs, hv⟩ := hf
  exact ⟨(ad, oe), ⟨rfl, vs, hv, hz.2.2 vs hv⟩, List.mem_cons_self⟩
end
end Pm

namespace Pm
open PySem PySem.Spec PyProof.Rows L2
section
variable {c : Cc} {O O' : Ow} {H H' : Hp} {ρ ρ' : En} {τ τ' : List (V × R)} {σ σ' : St} {v : V} {ℓ ℓ' : Lab} {ct : Ct} {X : Cx} {ek : EK} {fl : Bool}
variable {a b e o i : Expr} {rest : List Expr} {Ta Tb Te To Ti : TEp} {pos pos' p2 : Pos} {T U : TSp} {TA TB : TAp} {es : List Expr}
/-! ### pop(i) of an owned list -/
def fPopAt : MuF := fun l ds K => match ds with
  | [.int i] => (-(2 ^ 63) ≤ i ∧ i < 2 ^ 63) ∧ match ixN l.length i with
    | some k => match l[k]? with
      | some d => K d (l.eraseIdx k)
      | none => False
    | none => False
  | _ => False
theorem Rps.erase {K : PySem.W.Frag} {A : Av} : ∀ {l : List D} {vs : List V} (k : Nat), Rps K H A l vs → Rps K H A (l.eraseIdx k) (vs.eraseIdx k)
  | [], vs, k, h => by
    unfold Rps at h; subst h
    rw [List.eraseIdx_nil, List.eraseIdx_nil]; unfold Rps; rfl
  | d :: l, vs, 0, h => by
    obtain ⟨w, r, rfl, r1, r2⟩ := h
    exact r2
  | d :: l, vs, k + 1, h => by
    obtain ⟨w, r, rfl, r1, r2⟩ := h
    exact ⟨w, _, rfl, r1, Rps.erase k r2⟩
theorem popAt_ok : MuOk c fPopAt rPopAt := by
  intro A H p vs ws l ds Q K0 hp rl rd h hQ
  unfold fPopAt at h
  split at h
  · rename_i i
    obtain ⟨w, r, rfl, r1, r2⟩ := rd
    unfold Rps at r2; subst r2
    obtain ⟨⟨h1, h2⟩, h⟩ := h
    split at h
    · rename_i k ek
      split at h
      · rename_i d ed
        obtain ⟨y, ey, ry⟩ := rl.get ed
        have e2 := (ixN_seq ek).1
        exact ⟨p, vs, i, k, y, rfl, by rw [r1.int], hp, h1, h2, by rw [rl.length]; exact e2, ey, hQ _ _ _ _ h ry (rl.erase k)⟩
      · exact h.elim
    · exact h.elim
  · exact h.elim
/-! ### a.f[i] = e, del a.f[i] -/
def plK (ρ : En) (r ri : R) (k : List D → Nat → Prop) : Prop := match ctF ρ r, vw ρ ri with
  | some (.ow l), some (.int i) => match ixN l.length i with
    | some n => k l n
    | none => False
  | _, _ => False
theorem plK.of {r ri : R} {k : List D → Nat → Prop} (h : plK ρ r ri k) : ∃ l i n, ctF ρ r = some (.ow l) ∧ vw ρ ri = some (.int i) ∧ ixN l.length i = some n ∧ k l n := by
  unfold plK at h
  split at h
  · rename_i l i e1 e2
    split at h
    · rename_i n e3
      exact ⟨l, i, n, e1, e2, e3, h⟩
    · exact h.elim
  · exact h.elim
def sSubR (To Ti Te : TEp) : TSp := fun ρ E => Te ρ (fun r ρ1 => match fzC ρ1 r with
  | some (d, ρ2) => To ρ2 (fun ro ρ3 => isPl ro = true ∧ Ti ρ3 (fun ri ρ4 => plK ρ4 ro ri fun l n => E.nx (setR ρ4 ro (.ow (l.set n d)))) E.ex) E.ex
  | none => False) E.ex
theorem s_subR (ho : PEp c ek fl X o To) (hi : PEp c ek false X i Ti) (he : PEp c ek true X e Te)
    (ha : ∀ v, assign (.Subscript o i p2) X.env v = (do
      let ov ← holding [v] (eval o X.env)
      let iv ← holding [v, ov] (eval i X.env)
      standAt p2
      holding [v, ov, iv] (setItem ov iv v)
      release [v, ov, iv] []) := by intro _; rfl)
    (hs : swapsWithSole [.Subscript o i p2] e pos.line X.env = pure false := by rfl) (hw : swappedStores [.Subscript o i p2] e X.env = pure none := by rfl)
    (h1 : (assignEach [.Subscript o i p2] X.env).map (·.2) = [assign (.Subscript o i p2) X.env] := by rfl) : PSp c ek X (.Assign [.Subscript o i p2] e pos) (sSubR To Ti Te) := by
  refine ⟨fun pins s σ H D I h => ?_⟩
  obtain ⟨ρ, τ, E, S, n, hT, q1, q2, q3, q4, q5⟩ := h
  refine (ps_asg he (pg_sub ho hi set_list ha) hs hw h1).run pins s σ H D I ⟨ρ, τ, _, _, S, hT, fun r ρ1 v H1 h1 S1 => ?_, q5 σ, fun _ => n.alf⟩
  obtain ⟨O, S1⟩ := S1
  split at h1
  · rename_i d ρ2 e1
    obtain ⟨O2, S2, rp, _⟩ := fzC_ok S1 e1
    refine ⟨ρ2, (v, .va (Fz d)) :: τ, _, E.ex, ⟨O2, S2.push rp⟩, h1, fun ro ρ3 w H3 h3 S3 => ?_, q5 σ, fun _ => ?_⟩
    · obtain ⟨hpl, h3⟩ := h3
      refine ⟨ρ3, (w, ro) :: (v, .va (Fz d)) :: τ, _, E.ex, S3, h3, fun ri ρ4 y H4 h4 S4 => ?_, q5 σ, fun z => by cases z⟩
      obtain ⟨l, i, k, e2, e3, e4, h5⟩ := h4.of
      obtain ⟨O4, S4⟩ := S4
      have hy := (S4.vw e3).int
      have S5 := S4.pop
      obtain ⟨p, vs, rfl, hoo, hp, rr⟩ := S5.ctF e2
      have rp5 : Rp c.K H4 (c.av O4) d v := S5.pop.tm.1
      have S6 := S5.setPl (o := .lst (vs.set k v)) (fc' := .ow (l.set k d)) hpl e2 rfl hoo hp (.inl (by intro _ _ _ z; rcases z with z | z <;> cases z)) True.intro True.intro (fun P ex => ⟨p, _, rfl, hoo, upd_same, ex.rps (rr.set k rp5)⟩)
      exact ⟨p, vs, i, k, rfl, hy, hp, by rw [rr.length]; exact e4, q1 _ _ _ h5 ⟨O4, S6.pop⟩⟩
    · intro w i f m
      rcases List.mem_cons.mp m with z | m
      · cases z
      · exact n.alf w i f m
  · exact h1.elim
def sDelR (To Ti : TEp) : TSp := fun ρ E => To ρ (fun ro ρ1 => isPl ro = true ∧ Ti ρ1 (fun ri ρ2 => plK ρ2 ro ri fun l n => l.length < 2 ^ 62 ∧ E.nx (setR ρ2 ro (.ow (l.eraseIdx n)))) E.ex) E.ex
theorem s_delR (ho : PEp c ek fl X o To) (hi : PEp c ek false X i Ti) : PSp c ek X (.Delete [.Subscript o i p2] pos) (sDelR To Ti) := by
  refine ⟨fun pins s σ H D I h => ?_⟩
  obtain ⟨ρ, τ, E, S, n, hT, q1, q2, q3, q4, q5⟩ := h
  refine (ps_delL ho hi).run pins s σ H D I ⟨ρ, τ, _, E.ex, S, hT, fun ro ρ3 w H3 h3 S3 => ?_, q5 σ, fun _ => n.alf⟩
  obtain ⟨hpl, h3⟩ := h3
  refine ⟨ρ3, (w, ro) :: τ, _, E.ex, S3, h3, fun ri ρ4 y H4 h4 S4 => ?_, q5 σ, fun z => by cases z⟩
  obtain ⟨l, i, k, e2, e3, e4, hlen, h5⟩ := h4.of
  obtain ⟨O4, S4⟩ := S4
  have hy := (S4.vw e3).int
  have S5 := S4.pop
  obtain ⟨p, vs, rfl, hoo, hp, rr⟩ := S5.ctF e2
  obtain ⟨x1, x2, x3, x4⟩ := ixN_seq e4
  have S6 := S5.setPl (o := .lst (vs.eraseIdx k)) (fc' := .ow (l.eraseIdx k)) hpl e2 rfl hoo hp (.inl (by intro _ _ _ z; rcases z with z | z <;> cases z)) True.intro True.intro (fun P ex => ⟨p, _, rfl, hoo, upd_same, ex.rps (rr.erase k)⟩)
  exact ⟨p, vs, i, k, rfl, hy, hp, by omega, by omega, by rw [rr.length]; exact x1, q1 _ _ _ h5 ⟨O4, S6⟩⟩
/-! ### equations -/
def plJ : Option FC → Option D → (List D → Nat → Prop) → Prop
  | some (.ow l), some (.int i), k => match ixN l.length i with
    | some n => k l n
    | none => False
  | _, _, _ => False
theorem plJ_ow {l : List D} {i : Int} {k : List D → Nat → Prop} : plJ (some (.ow l)) (some (.int i)) k = oD (ixN l.length i) fun n => k l n := by
  show (match ixN l.length i with | some n => k l n | none => False) = _
  cases ixN l.length i <;> rfl
theorem plK_J {r ri : R} {k : List D → Nat → Prop} : plK ρ r ri k = plJ (ctF ρ r) (vw ρ ri) k := by
  unfold plK
  generalize ctF ρ r = x
  generalize vw ρ ri = y
  cases x with
  | none => rfl
  | some x => cases x <;> cases y <;> first | rfl | (rename_i d; cases d <;> rfl)
theorem e_subR {E : Ep} : sSubR To Ti Te ρ E = Te ρ (fun r ρ1 => oD (fzC ρ1 r) fun p => To p.2 (fun ro ρ3 => isPl ro = true ∧ Ti ρ3 (fun ri ρ4 => plJ (ctF ρ4 ro) (vw ρ4 ri) fun l n => E.nx (setR ρ4 ro (.ow (l.set n p.1)))) E.ex) E.ex) E.ex := by
  unfold sSubR
  congr 1
  funext r ρ1
  cases fzC ρ1 r with
  | none => rfl
  | some p =>
    obtain ⟨d, ρ2⟩ := p
    simp only [plK_J]
    rfl
theorem e_delR {E : Ep} : sDelR To Ti ρ E = To ρ (fun ro ρ1 => isPl ro = true ∧ Ti ρ1 (fun ri ρ2 => plJ (ctF ρ2 ro) (vw ρ2 ri) fun l n => l.length < 2 ^ 62 ∧ E.nx (setR ρ2 ro (.ow (l.eraseIdx n)))) E.ex) E.ex := by
  unfold sDelR
  simp only [plK_J]
theorem f_popAt {l : List D} {i : Int} {K : D → List D → Prop} : fPopAt l [.int i] K = ((-(2 ^ 63) ≤ i ∧ i < 2 ^ 63) ∧ oD (ixN l.length i) fun k => oD l[k]? fun d => K d (l.eraseIdx k)) := by
  show (_ ∧ _) = (_ ∧ _)
  congr 1
  cases ixN l.length i with
  | none => rfl
  | some k => show (match l[k]? with | some d => _ | none => False) = oD l[k]? _; cases l[k]? <;> rfl
theorem ixN_nat {n k : Nat} (h : k < n) : ixN n (k : Int) = some k := by
  unfold ixN
  rw [if_pos (by omega), if_pos (by omega), Int.toNat_natCast]
end
end Pm

namespace Pm
open PySem PySem.Spec PyProof.Rows L2
section
variable {c c' : Cc} {O O' O1 : Ow} {H H' H1 : Hp} {ρ ρ' ρ1 : En} {τ τ' : List (V × R)} {σ σ' σ1 : St} {v : V} {ℓ ℓ' : Lab} {ct : Ct} {X : Cx} {ek : EK} {fl : Bool}
/-! ### contents under another context with the same addresses to avoid -/
theorem FOk.av (h1 : c.K = c'.K) (ha : ∀ a, c.av O a ↔ c'.av O' a) {m : Lab × Option Str} (ho : ∀ a, O a = some m → O' a = some m) {f : FC} (h : FOk c H O v m f) : FOk c' H O' v m f := by
  have rp : ∀ (d : D) (v : V), Rp c.K H (c.av O) d v → Rp c'.K H (c'.av O') d v := fun d v h => by
    rw [← h1]; exact Rp.mono (fun _ _ _ h => h) (fun _ _ h => h) (fun a xs h n => ⟨h, fun z => n ((ha a).mpr z)⟩) d v h
  have rps : ∀ (d : List D) (v : List V), Rps c.K H (c.av O) d v → Rps c'.K H (c'.av O') d v := fun d v h => by
    rw [← h1]; exact Rps.mono (fun _ _ _ h => h) (fun _ _ h => h) (fun a xs h n => ⟨h, fun z => n ((ha a).mpr z)⟩) d v h
  cases f with
  | fz d => exact rp d v h
  | ow l => obtain ⟨a, vs, e, o, q, r⟩ := h; exact ⟨a, vs, e, ho a o, q, rps _ _ r⟩
  | dk kvs => obtain ⟨a, ws, e, o, q, k, r⟩ := h; exact ⟨a, ws, e, ho a o, q, k, rps _ _ r⟩
  | tow p l => obtain ⟨a, vs, e, ⟨o, hpa⟩, q, r⟩ := h; exact ⟨a, vs, e, ⟨ho a o, hpa⟩, q, rps _ _ r⟩
  | tdk p kvs => obtain ⟨a, ws, e, ⟨o, hpa⟩, q, k, r⟩ := h; exact ⟨a, ws, e, ⟨ho a o, hpa⟩, q, k, rps _ _ r⟩
  | pin p => exact h
theorem COk.av (h1 : c.K = c'.K) (h2 : c.cls = c'.cls) (ha : ∀ a, c.av O a ↔ c'.av O' a) (ho : ∀ a m, O a = some (ℓ, m) → O' a = some (ℓ, m)) (h : COk c H O v ℓ ct) : COk c' H O' v ℓ ct := by
  cases ct with
  | no => trivial
  | «at» f => exact FOk.av h1 ha (fun a => ho a _) h
  | ob nm fs =>
    obtain ⟨x, dx, C, vfs, e, o, k, q, r⟩ := h
    exact ⟨x, dx, C, vfs, e, ho _ _ o, by rw [← h2]; exact k, q, r.1, fun f fc z => let ⟨w, e1, e2⟩ := r.2 f fc z; ⟨w, e1, FOk.av h1 ha (fun a => ho a _) e2⟩⟩
  | ds fs =>
    obtain ⟨x, vfs, e, o, hx, r⟩ := h
    exact ⟨x, vfs, e, ho _ _ o, hx, r.1, fun f fc z => let ⟨w, e1, e2⟩ := r.2 f fc z; ⟨w, e1, FOk.av h1 ha (fun a => ho a _) e2⟩⟩
/-! ### a slot locked while a loop reads what it holds -/
def inS (O : Ow) (i : Nat) (a : Addr) : Prop := ∃ m, O a = some (.s i, m)
open Classical in
noncomputable def unO (O : Ow) (i : Nat) : Ow := fun a => if inS O i a then none else O a
open Classical in
noncomputable def reO (O O1 : Ow) (i : Nat) : Ow := fun a => if inS O i a then O a else O1 a
def Cc.lk (c : Cc) (i : Nat) (x : Addr) (O : Ow) (H : Hp) : Cc := ⟨c.K, c.cls, fun a => c.Z a ∨ inS O i a, H, fun a => O a ≠ none ∧ ¬ inS O i a, (i, x) :: c.io, i :: c.lock, c.nb⟩
theorem unO_some {i : Nat} {a : Addr} {m : Lab × Option Str} (h : unO O i a = some m) : O a = some m ∧ ¬ inS O i a := by
  unfold unO at h
  split at h
  · cases h
  · exact ⟨h, by assumption⟩
theorem lk_av {i : Nat} {x : Addr} (a : Addr) : c.av O a ↔ (c.lk i x O H).av (unO O i) a := by
  unfold Cc.av Cc.lk unO
  by_cases h : inS O i a
  · have : O a ≠ none := by obtain ⟨m, e⟩ := h; rw [e]; simp
    simp [h, this]
  · simp [h]
theorem NoAl.tokAv (h1 : c.K = c'.K) (h2 : c.cls = c'.cls) (ha : ∀ a, c.av O a ↔ c'.av O' a) (ho : ∀ a k m, O a = some (.t k, m) → O' a = some (.t k, m)) : ∀ {τ : List (V × R)}, NoAl τ → TOk c H O σ τ → TOk c' H O' σ' τ
  | [], _, _ => trivial
  | (v, .al i) :: τ, n, h => by obtain ⟨ct, e⟩ := n v _ List.mem_cons_self; cases e
  | (v, .alf i f) :: τ, n, h => by obtain ⟨ct, e⟩ := n v _ List.mem_cons_self; cases e
  | (v, .va ct) :: τ, n, h => ⟨COk.av h1 h2 ha (fun a m => ho a _ m) h.1, NoAl.tokAv h1 h2 ha ho (fun w r m => n w r (List.mem_cons_of_mem _ m)) h.2⟩
theorem Sim0.lkIn {i : Nat} {x : Addr} (S : Sim0 c H O ρ τ σ) (n : NoAl τ) (hi : σ[i]? = some (some (.ref x))) : Sim0 (c.lk i x O H) H (unO O i) (ρ.set i .no) τ σ := by
  refine ⟨by rw [List.length_set]; exact S.len, fun a o h _ => h, fun a l h => ?_, fun a z => ?_, fun p hp => ?_, fun j ct' q hn => ?_, ?_⟩
  · obtain ⟨e, np⟩ := unO_some h
    obtain ⟨z1, z2, z3⟩ := S.ow a l e
    exact ⟨fun z => z.elim z1 np, .inr ⟨by rw [e]; simp, np⟩, z3⟩
  · rcases z with z | ⟨m, z⟩
    · exact S.zt a z
    · have := (S.ow a _ z).2.2
      intro e; rw [e] at this; exact this
  · rcases List.mem_cons.mp hp with e | hp
    · subst e; exact ⟨List.mem_cons_self, hi⟩
    · exact ⟨List.mem_cons_of_mem _ (S.io p hp).1, (S.io p hp).2⟩
  · have hij : i ≠ j := fun e => by
      subst e
      by_cases hl : i < ρ.length
      · rw [List.getElem?_set_self hl] at q; cases q; exact hn rfl
      · rw [List.getElem?_eq_none (by rw [List.length_set]; omega)] at q; cases q
    rw [List.getElem?_set_ne hij] at q
    obtain ⟨u, e1, e2⟩ := S.sl j ct' q hn
    refine ⟨u, e1, COk.av (c := c) (c' := c.lk i x O H) (O := O) (O' := unO O i) rfl rfl (fun a => lk_av a) (fun a m e => ?_) e2⟩
    unfold unO
    rw [if_neg]
    · exact e
    · rintro ⟨m', e'⟩
      rw [e] at e'; cases e'; exact hij rfl
  · refine n.tokAv (c := c) (c' := c.lk i x O H) (O := O) (O' := unO O i) rfl rfl (fun a => lk_av a) (fun a k m e => ?_) S.tm
    unfold unO
    rw [if_neg]
    · exact e
    · rintro ⟨m', e'⟩
      rw [e] at e'; cases e'
theorem reO_in {i : Nat} {a : Addr} (h : inS O i a) : reO O O1 i a = O a := by unfold reO; rw [if_pos h]
theorem reO_out {i : Nat} {a : Addr} (h : ¬ inS O i a) : reO O O1 i a = O1 a := by unfold reO; rw [if_neg h]
theorem lk_out {i : Nat} {x : Addr} (S1 : Sim0 (c.lk i x O H) H1 O1 ρ1 τ σ1) {a : Addr} {m : Lab × Option Str} (h : O1 a = some m) : ¬ inS O i a := fun z => (S1.ow a m h).1 (.inr z)
theorem lk_same {i : Nat} {x : Addr} (S1 : Sim0 (c.lk i x O H) H1 O1 ρ1 τ σ1) {a : Addr} {o : HO} (h : H a = some o) (hn : O a = none ∨ inS O i a) : H1 a = some o := S1.fr a o h fun z => hn.elim z.1 z.2
theorem lk_av1 {i : Nat} {x : Addr} (a : Addr) : (c.lk i x O H).av O1 a ↔ c.av (reO O O1 i) a := by
  unfold Cc.av Cc.lk
  by_cases h : inS O i a
  · have : O a ≠ none := by obtain ⟨m, e⟩ := h; rw [e]; simp
    rw [reO_in h]; simp [h, this]
  · rw [reO_out h]; simp [h]
theorem lk_ext {i : Nat} {x : Addr} (S : Sim0 c H O ρ τ σ) (S1 : Sim0 (c.lk i x O H) H1 O1 ρ1 τ' σ1) : Ext c (fun l a => l.1 ≠ .s i) O (reO O O1 i) H H1 := by
  have nm : ∀ a o, H a = some o → ¬ Mut (some o) → O a = none := fun a o h n => by
    cases e : O a with
    | none => rfl
    | some m => have := (S.ow a m e).2.2; rw [h] at this; exact (n this).elim
  refine ⟨fun a o u h => lk_same S1 h (.inl (nm a _ h id)), fun a xs h => ?_, fun a xs h n => ?_, fun a l o h hp h2 => ?_⟩
  · rcases h with (h | ⟨u, h⟩) | h
    · exact .inl (.inl (lk_same S1 h (.inl (nm a _ h id))))
    · exact .inl (.inr ⟨u, lk_same S1 h (.inl (nm a _ h id))⟩)
    · exact .inr h
  · have ho : O a = none := by
      cases e : O a with
      | none => rfl
      | some m => exact (n (.inr (by rw [e]; simp))).elim
    refine ⟨lk_same S1 h (.inl ho), fun z => ?_⟩
    have np : ¬ inS O i a := fun ⟨m, e⟩ => by rw [ho] at e; cases e
    rcases z with z | z
    · exact n (.inl z)
    · rw [reO_out np] at z
      cases e : O1 a with
      | none => exact z e
      | some m =>
        rcases (S1.ow a m e).2.1 with q | q
        · have q : H a = none := q
          rw [h] at q; cases q
        · exact q.1 ho
  · have hs : l.1 = .s i := Classical.not_not.mp hp
    have hin : inS O i a := ⟨l.2, by rw [h, ← hs]⟩
    exact ⟨by rw [reO_in hin]; exact h, lk_same S1 h2 (.inr hin)⟩
theorem lk_tok {i : Nat} {x : Addr} (ho : ∀ a m, O1 a = some m → ¬ inS O i a) : ∀ {τ : List (V × R)}, TOk (c.lk i x O H) H1 O1 σ1 τ → TOk c H1 (reO O O1 i) σ1 τ
  | [], _ => trivial
  | (v, .al j) :: τ, h => ⟨h.1, lk_tok ho h.2⟩
  | (v, .alf j f) :: τ, h => by
    obtain ⟨⟨y, C, dx, vfs, hb, e1, o, e2, e3⟩, h2⟩ := h
    exact ⟨⟨y, C, dx, vfs, hb, e1, by rw [reO_out (ho _ _ o)]; exact o, e2, e3⟩, lk_tok ho h2⟩
  | (v, .va ct) :: τ, h => ⟨COk.av (c := c.lk i x O H) (c' := c) (O := O1) (O' := reO O O1 i) rfl rfl (fun a => lk_av1 a) (fun a m e => by rw [reO_out (ho _ _ e)]; exact e) h.1, lk_tok ho h.2⟩
theorem Sim0.lkOut {i : Nat} {x : Addr} (S : Sim0 c H O ρ τ σ) (hc : ρ[i]? = some ct) (hn : ct ≠ .no) (hi : σ[i]? = some (some (.ref x))) (S1 : Sim0 (c.lk i x O H) H1 O1 ρ1 τ' σ1) : Sim0 c H1 (reO O O1 i) (ρ1.set i ct) τ' σ1 := by
  have e1 : σ1[i]? = some (some (.ref x)) := (S1.io (i, x) List.mem_cons_self).2
  refine ⟨by rw [List.length_set]; exact S1.len, fun a o h n => ?_, fun a l h => ?_, fun a z => S1.zt a (.inl z), fun p hp => ⟨(S.io p hp).1, (S1.io p (List.mem_cons_of_mem _ hp)).2⟩, fun j ct' q hn' => ?_, ?_⟩
  · have h' := S.fr a o h n
    refine lk_same S1 h' (.inl ?_)
    cases e : O a with
    | none => rfl
    | some m =>
      rcases (S.ow a m e).2.1 with z | z
      · rw [h] at z; cases z
      · exact (n z).elim
  · by_cases hin : inS O i a
    · rw [reO_in hin] at h
      obtain ⟨z1, z2, z3⟩ := S.ow a l h
      refine ⟨z1, z2, ?_⟩
      cases e : H a with
      | none => rw [e] at z3; exact z3.elim
      | some o => rw [lk_same S1 e (.inr hin), ← e]; exact z3
    · rw [reO_out hin] at h
      obtain ⟨z1, z2, z3⟩ := S1.ow a l h
      refine ⟨fun z => z1 (.inl z), ?_, z3⟩
      rcases z2 with z2 | z2
      · exact S.h0_none (show H a = none from z2)
      · cases e : O a with
        | none => exact (z2.1 e).elim
        | some m => exact (S.ow a m e).2.1
  · by_cases hij : i = j
    · subst hij
      have : ct' = ct := by
        by_cases hl : i < ρ1.length
        · rw [List.getElem?_set_self hl] at q; cases q; rfl
        · rw [List.getElem?_eq_none (by rw [List.length_set]; omega)] at q; cases q
      subst this
      obtain ⟨u, e2, e3⟩ := S.sl i ct' hc hn'
      rw [hi] at e2; cases e2
      exact ⟨_, e1, COk.mono (lk_ext S S1) (fun m a z => z rfl) e3⟩
    · rw [List.getElem?_set_ne hij] at q
      obtain ⟨u, e2, e3⟩ := S1.sl j ct' q hn'
      refine ⟨u, e2, COk.av (c := c.lk i x O H) (c' := c) (O := O1) (O' := reO O O1 i) rfl rfl (fun a => lk_av1 a) (fun a m e => ?_) e3⟩
      rw [reO_out (lk_out S1 e)]; exact e
  · exact lk_tok (fun a m e => lk_out S1 e) S1.tm
end
end Pm

namespace Pm
open PySem PySem.Spec PyProof.Rows L2
section
variable {c c' : Cc} {O O' O1 : Ow} {H H' H1 : Hp} {ρ ρ' ρ1 : En} {τ τ' : List (V × R)} {σ σ' σ1 : St} {v : V} {ℓ ℓ' : Lab} {ct : Ct} {X : Cx} {ek : EK} {fl : Bool}
theorem Rps.avK {A A' : Av} {K : PySem.W.Frag} {l : List D} {vs : List V} (ha : ∀ a, A' a → A a) (h : Rps K H A l vs) : Rps K H A' l vs := Rps.mono (fun _ _ _ h => h) (fun _ _ h => h) (fun a xs h n => ⟨h, fun z => n (ha a z)⟩) l vs h
/-- the pairs of a list that a locked slot holds -/
theorem lk_it {i : Nat} {x p : Addr} {k : Int} {l : List D} {vs : List V} (S : Sim0 c H O ρ τ σ) (hp : H p = some (.lst vs)) (ho : inS O i p) (r : Rps c.K H (c.av O) l vs) : ItOk (c.lk i x O H) (ItE (fun H us => SqL c.K H p us) k) (enD k l) [] := by
  intro σ1 H1 ρ1 τ0 τ1 j S1
  obtain ⟨O1, S1⟩ := S1
  have hp1 : H1 p = some (.lst vs) := lk_same S1 hp (.inr ho)
  have rr : Rps c.K H1 ((c.lk i x O H).av O1) l vs := Rps.avK (fun a z => (lk_av1 a).mp z) ((lk_ext S S1).rps r)
  refine ⟨fun d hd => ?_, fun hl => ⟨vs, SqL.of hp1, by rw [r.length, ← enD_len (k := k)]; exact hl⟩⟩
  obtain ⟨d', e1, e2⟩ := enD_get hd
  obtain ⟨u, hu, ru⟩ := rr.get e1
  refine ⟨⟨vs, u, SqL.of hp1, hu⟩, fun y H' z => ?_⟩
  obtain ⟨t, u', ex, hn, eH, z⟩ := z
  have z := z vs (SqL.of hp1)
  rw [hu] at z; cases z
  subst ex eH e2
  have S2 := S1.new (o := .tup [.int (k + (j : Int)), u]) (m := none) hn (fun z => absurd rfl z)
  refine ⟨_, S2, ?_⟩
  unfold Rp
  exact ⟨t, _, rfl, SqT.of upd_same, .cons (Rp.ofInt _) (.one ((Ext.new (o := .tup [.int (k + (j : Int)), u]) (m := none) S1 hn).rp ru))⟩
theorem lkL {i j : Nat} {x : Addr} (h : j ≠ i) (hj : j ∉ c.lock) : j ∉ (c.lk i x O H).lock := fun z => by
  rcases List.mem_cons.mp z with e | z
  · exact h e
  · exact hj z
/-- exits give the slot its content back -/
def lkE (i : Nat) (ct : Ct) (E : Ep) : Ep := ⟨fun ρ => E.nx (ρ.set i ct), fun r ρ => E.rt r (ρ.set i ct), fun ρ => E.bk (ρ.set i ct), fun ρ => E.ct (ρ.set i ct), fun x ρ => E.ex x (ρ.set i ct)⟩
def plOf : R → Option Nat
  | .al i => some i
  | .alf i _ => some i
  | .va _ => none
/-- for g in enumerate(o): body, where o is a place in slot i that the body leaves alone -/
def sForEO (i : Nat) (To : TAp) (g : Tg) (T : TSp) : TSp := fun ρ E => To ρ (fun rs ρ1 => ∃ r l ct, rs = [r] ∧ plOf r = some i ∧ ctF ρ1 r = some (.ow l) ∧ ρ1[i]? = some ct ∧ forK g T (enD 0 l) (ρ1.set i .no) (lkE i ct E)) E.ex
theorem pi_enumR {e : Expr} {ta : TA} {tgs : List Expr} {kk : Nat} {tp p pos : Pos} (hm : X.mg "enumerate" = none) (ha : PA X [e] ta) (hg : Gl X "enumerate" := by rfl) (hs : starEach [e] X.env = [(false, eval e X.env)] := by rfl) :
    PI X (.Tuple tgs kk tp) (.Call (.Name "enumerate" p) [e] [] pos) (fun σ H RR => ta σ H fun vs H1 => ∃ a xs, vs = [.ref a] ∧ SqL X.K H1 a xs ∧ RR (ItE (fun H us => SqL X.K H a us) 0) H1) := by
  refine ⟨fun pins s σ H R I h => ?_⟩
  refine Call_ (ld_blt I hg hm boot_enumerate (PyProof.Rows.callWith_type1 (thn (ha.run pos pins s σ H _ I h) fun us s1 ⟨vs, H1, I1, r1, q1⟩ => ?_) hs rfl))
  obtain ⟨a, xs, ex, hq, q⟩ := q1
  subst ex
  cases r1 with
  | cons r rr =>
    cases rr
    cases r
    exact enL_pi I1 hq q
theorem s_forEO (i : Nat) {es : Expr} {To : TAp} {T : TSp} {g : Tg} {tgs : List Expr} {kk : Nat} {tp p pos pos' : Pos} {body : List Stmt} (hp : PassesOwn (model X.prog X.w) X.A X.env X.xe) (hc : X.calm = true) (hm : X.mg "enumerate" = none) (ha : PAp c ek0 true X [es] To)
    (hg : ∀ x O H, PGp (c.lk i x O H) X (.Tuple tgs kk tp) g) (hb : ∀ x O H, PSsp (c.lk i x O H) ek0 X body T) (hnb : i < c.nb) (hK : X.K = c.K := by rfl) (hgl : Gl X "enumerate" := by rfl) (hse : starEach [es] X.env = [(false, eval es X.env)] := by rfl)
    (hs : ∀ x, foldedSetIterable (.Call (.Name "enumerate" p) [es] [] pos') X.env x = pure x := by intro _; rfl) : PSp c ek0 X (.For (.Tuple tgs kk tp) (.Call (.Name "enumerate" p) [es] [] pos') body [] pos) (sForEO i To g T) := by
  refine ⟨fun pins s σ H D I h => ?_⟩
  obtain ⟨ρ, τ, E, S, n, hT, q1, q2, q3, q4, q5⟩ := h
  have hg' : PG X (.Tuple tgs kk tp) (fun v σ H Q => ∃ x O0 H0, rdG (c.lk i x O0 H0) g v σ H Q) := ⟨fun pins s σ H v u Q I r ⟨x, O0, H0, h⟩ => (hg x O0 H0).run pins s σ H v u Q I r h⟩
  have hb' : PSs X body (fun D σ H => ∃ x O0 H0, rdS (c.lk i x O0 H0) ek0 T D σ H) := ⟨fun pins s σ H D I ⟨x, O0, H0, h⟩ => (hb x O0 H0).run pins s σ H D I h⟩
  refine (ps_for hp hc (pi_enumR hm ha hgl hse) hg' hb' hs).run pins s σ H D I ⟨ρ, τ, _, _, S, hT, fun rs ρ1 vs H1 h1 hl S1 => ?_, q5 σ, fun _ => n.alf⟩
  obtain ⟨r, l, ct, rfl, hpl, hcf, hr, hf⟩ := h1
  obtain ⟨v, rfl⟩ : ∃ v, vs = [v] := by
    match vs, hl with
    | [v], _ => exact ⟨v, rfl⟩
  obtain ⟨O1, S1⟩ := S1
  have S1 : Sim0 c H1 O1 ρ1 ((v, r) :: τ) σ := S1
  obtain ⟨a, us, rfl, ho, ha1, rr⟩ := S1.ctF hcf
  have hn : ct ≠ .no := fun z => by
    subst z
    cases r with
    | va ct => cases hpl
    | al j => cases hpl; rw [ctF_al hcf] at hr; cases hr
    | alf j f => cases hpl; obtain ⟨ct, fs, f', e, ef, _⟩ := ctF_alf hcf; rw [e] at hr; cases hr; cases ef
  have hin : inS O1 i a := by
    cases r with
    | va ct => cases hpl
    | al j => cases hpl; exact ⟨_, ho⟩
    | alf j f => cases hpl; exact ⟨_, ho⟩
  obtain ⟨x, hx⟩ : ∃ x, σ[i]? = some (some (.ref x)) := by
    cases r with
    | va ct => cases hpl
    | al j => cases hpl; exact ⟨_, S1.tm.1.2⟩
    | alf j f => cases hpl; obtain ⟨⟨x, C, dx, vfs, _, e, _⟩, _⟩ := S1.tm; exact ⟨x, e⟩
  have S2 := S1.pop
  have S3 := S2.lkIn n hx
  refine ⟨a, us, rfl, SqL.of ha1, fun k m σ' H' => m = (enD 0 l).length - k ∧ k ≤ (enD 0 l).length ∧ ∃ ρ', Sim (c.lk i x O1 H1) ρ' τ σ' H' ∧ forK g T ((enD 0 l).drop k) ρ' (lkE i ct E), ⟨(enD 0 l).length, by simp, Nat.zero_le _, _, ⟨_, S3⟩, hf⟩, ?_⟩
  have hJ := lk_it (x := x) (k := 0) S2 ha1 hin rr
  rw [hK]
  generalize enD 0 l = ds at hJ hf
  rintro k m σ' H' ⟨rfl, hi, ρ', S4, hf⟩
  obtain ⟨j1, j2⟩ := hJ σ' H' ρ' [] τ k S4
  have out : ∀ {ρ2 : En} {τ2 : List (V × R)} {σ2 : L2.St} {H2 : Hp}, Sim (c.lk i x O1 H1) ρ2 τ2 σ2 H2 → Sim c (ρ2.set i ct) τ2 σ2 H2 := fun ⟨O2, z⟩ => ⟨_, S2.lkOut hr hn hx z⟩
  by_cases hlt : k < ds.length
  · have hd : ds[k]? = some ds[k] := List.getElem?_eq_getElem hlt
    obtain ⟨jg, jy⟩ := j1 _ hd
    rw [List.drop_eq_getElem_cons hlt] at hf
    unfold forK at hf
    split at hf
    · rename_i ρ2 e1
      refine .inr ⟨jg, fun σ' H' => ∃ ρ', Sim (c.lk i x O1 H1) ρ' τ σ' H' ∧ forK g T (ds.drop (k + 1)) ρ' (lkE i ct E), fun σ' H' hN => ⟨ds.length - (k + 1), by omega, rfl, hlt, hN⟩, fun y H2 hy => ?_⟩
      obtain ⟨O2, S5, rp⟩ := jy y H2 hy
      refine ⟨x, O1, H1, ρ', τ, ds[k], ρ2, O2, S5, .inl n, rp, e1, fun σ2 _ S6 => ⟨x, O1, H1, ρ2, τ, _, ⟨O2, S6⟩, n, hf, fun ρ' σ' H' e S' => ⟨ρ', S', e⟩, fun ρ' σ' H' e S' => q1 _ _ _ e (out S'), fun ρ' σ' H' e S' => ⟨ρ', S', e⟩, fun r ρ' v σ' H' e S' => q4 _ _ _ _ _ e (out S'), fun σ => ?_⟩⟩
      exact fun y ρ z => q5 σ y _ z
    · exact hf.elim
  · have e : k = ds.length := by omega
    subst e
    rw [List.drop_length] at hf
    exact .inl ⟨j2 (Nat.le_refl _), q1 _ _ _ hf (out S4)⟩
/-! ### equations -/
def feo (g : Tg) (T : TSp) (E : Ep) (ρ : En) (i : Nat) : Option FC → Option Ct → Prop
  | some (.ow l), some ct => forK g T (enD 0 l) (ρ.set i .no) (lkE i ct E)
  | _, _ => False
theorem feo_ow {g : Tg} {T : TSp} {E : Ep} {i : Nat} {l : List D} : feo g T E ρ i (some (.ow l)) (some ct) = forK g T (enD 0 l) (ρ.set i .no) (lkE i ct E) := rfl
def feoK (i : Nat) (g : Tg) (T : TSp) (E : Ep) (ρ : En) : List R → Prop
  | [r] => plOf r = some i ∧ feo g T E ρ i (ctF ρ r) ρ[i]?
  | _ => False
theorem feoK_1 {i : Nat} {g : Tg} {T : TSp} {E : Ep} {r : R} : feoK i g T E ρ [r] = (plOf r = some i ∧ feo g T E ρ i (ctF ρ r) ρ[i]?) := rfl
theorem plOf_al {i j : Nat} : (plOf (.al i) = some j) = (i = j) := propext ⟨fun h => by cases h; rfl, fun h => by rw [h]; rfl⟩
theorem plOf_alf {i j : Nat} {f : Str} : (plOf (.alf i f) = some j) = (i = j) := propext ⟨fun h => by cases h; rfl, fun h => by rw [h]; rfl⟩
theorem e_forEO {i : Nat} {To : TAp} {g : Tg} {T : TSp} {E : Ep} : sForEO i To g T ρ E = To ρ (fun rs ρ1 => feoK i g T E ρ1 rs) E.ex := by
  unfold sForEO
  congr 1
  funext rs ρ1
  apply propext
  constructor
  · rintro ⟨r, l, ct, rfl, h1, h2, h3, h4⟩
    refine ⟨h1, ?_⟩
    rw [h2, h3]; exact h4
  · intro h
    match rs, h with
    | [r], ⟨h1, h⟩ =>
      cases e1 : ctF ρ1 r with
      | none => rw [e1] at h; exact h.elim
      | some f =>
        cases e2 : ρ1[i]? with
        | none => rw [e1, e2] at h; cases f <;> exact h.elim
        | some ct =>
          rw [e1, e2] at h
          cases f with
          | fz d => exact h.elim
          | dk k => exact h.elim
          | tow _ k => exact h.elim
          | tdk _ k => exact h.elim
          | pin k => exact h.elim
          | ow l => exact ⟨r, l, ct, rfl, h1, e1, rfl, h⟩
theorem lk_nx {i : Nat} {E : Ep} : (lkE i ct E).nx ρ = E.nx (ρ.set i ct) := rfl
theorem lk_bk {i : Nat} {E : Ep} : (lkE i ct E).bk ρ = E.bk (ρ.set i ct) := rfl
theorem lk_ct {i : Nat} {E : Ep} : (lkE i ct E).ct ρ = E.ct (ρ.set i ct) := rfl
theorem lk_ex {i : Nat} {E : Ep} {x : Exn} : (lkE i ct E).ex x ρ = E.ex x (ρ.set i ct) := rfl
theorem lk_rt {i : Nat} {E : Ep} {r : R} : (lkE i ct E).rt r ρ = E.rt r (ρ.set i ct) := rfl
end
end Pm

namespace Pm
open PySem PySem.Spec PyProof.Rows L2
section
variable {c c' : Cc} {O O' O1 : Ow} {H H' H1 : Hp} {ρ ρ' ρ1 : En} {τ τ' : List (V × R)} {σ σ' σ1 : St} {v : V} {ℓ ℓ' : Lab} {ct : Ct} {X : Cx} {ek : EK} {fl : Bool}
/-! ### an owned list of a field is walked and stays owned -/
theorem FsOk.sub {fs : List (Str × FC)} {vs : List (Str × V)} {f : Str} {fc fc' : FC} (h : FsOk c H O ℓ fs vs) (e : fs.lookup f = some fc) (w : ∀ v, vs.lookup f = some v → FOk c H O v (ℓ, some f) fc → FOk c H O v (ℓ, some f) fc') : FsOk c H O ℓ (putA f fc' fs) vs := by
  refine ⟨by rw [keys_putA e]; exact h.1, fun g gc q => ?_⟩
  rw [lookup_putA] at q
  by_cases hg : g = f
  · subst hg
    rw [if_pos rfl] at q; cases q
    obtain ⟨u, e1, e2⟩ := h.2 _ _ e
    exact ⟨u, e1, w u e1 e2⟩
  · rw [if_neg hg] at q
    exact h.2 g gc q
theorem Sim0.weak {i : Nat} {ct ct' : Ct} (S : Sim0 c H O ρ τ σ) (h : ρ[i]? = some ct) (hn : ct ≠ .no) (w : ∀ v, σ[i]? = some (some v) → COk c H O v (.s i) ct → COk c H O v (.s i) ct') : Sim0 c H O (ρ.set i ct') τ σ := by
  refine ⟨by rw [List.length_set]; exact S.len, S.fr, S.ow, S.zt, S.io, fun j cj q hj => ?_, S.tm⟩
  by_cases hij : i = j
  · subst hij
    have hi : i < ρ.length := (List.getElem?_eq_some_iff.mp h).1
    rw [List.getElem?_set_self hi] at q; cases q
    obtain ⟨u, e1, e2⟩ := S.sl i _ h hn
    exact ⟨u, e1, w u e1 e2⟩
  · rw [List.getElem?_set_ne hij] at q
    exact S.sl j cj q hj
def Ct.putF (f : Str) (fc : FC) : Ct → Ct
  | .ob nm fs => .ob nm (putA f fc fs)
  | .ds fs => .ds (putA f fc fs)
  | ct => ct
theorem COk.putF {fs : List (Str × FC)} {f : Str} {fc fc' : FC} (h : COk c H O v ℓ ct) (ef : ct.fields = some fs) (e : fs.lookup f = some fc) (w : ∀ v, FOk c H O v (ℓ, some f) fc → FOk c H O v (ℓ, some f) fc') : COk c H O v ℓ (ct.putF f fc') := by
  cases ct with
  | ob nm fs' => cases ef; obtain ⟨x, dx, C, vfs, e1, o, k, hx, r⟩ := h; exact ⟨x, dx, C, vfs, e1, o, k, hx, r.sub e fun u _ => w u⟩
  | ds fs' => cases ef; obtain ⟨x, vfs, e1, o, hx, r⟩ := h; exact ⟨x, vfs, e1, o, hx, r.sub e fun u _ => w u⟩
  | _ => cases ef
def unTk (i : Nat) (f : Str) (ρ : En) (ct : Ct) : Option FC → En
  | some fc => ρ.set i (ct.putF f (fcU fc))
  | none => ρ
/-- the tag goes -/
def unT (i : Nat) (f : Str) (ρ : En) : En := match ρ[i]? with
  | some (.ob nm fs) => unTk i f ρ (.ob nm fs) (fs.lookup f)
  | some (.ds fs) => unTk i f ρ (.ds fs) (fs.lookup f)
  | _ => ρ
theorem Sim0.un {i : Nat} {f : Str} (S : Sim0 c H O ρ τ σ) : Sim0 c H O (unT i f ρ) τ σ := by
  have go : ∀ (ct : Ct) (fs : List (Str × FC)), ρ[i]? = some ct → ct.fields = some fs → Sim0 c H O (unTk i f ρ ct (fs.lookup f)) τ σ := fun ct fs h ef => by
    cases e : fs.lookup f with
    | none => exact S
    | some fc => exact S.weak h (by intro z; subst z; cases ef) fun v _ q => q.putF ef e fun u r => r.untag
  unfold unT
  split
  · rename_i e; exact go _ _ e rfl
  · rename_i e; exact go _ _ e rfl
  · exact S
theorem Sim.un {i : Nat} {f : Str} (S : Sim c ρ τ σ H) : Sim c (unT i f ρ) τ σ H := let ⟨O, S⟩ := S; ⟨O, S.un⟩
/-- the tag comes -/
theorem Sim0.tag {i : Nat} {f : Str} {fs : List (Str × FC)} {l : List D} (S : Sim0 c H O ρ τ σ) (h : ρ[i]? = some ct) (ef : ct.fields = some fs) (e : fs.lookup f = some (.ow l)) : ∃ a, Sim0 c H O (ρ.set i (ct.putF f (.tow a l))) τ σ := by
  have hn : ct ≠ .no := by intro z; subst z; cases ef
  obtain ⟨v, e1, q⟩ := S.sl i _ h hn
  obtain ⟨x, C, dx, vfs, rfl, o, hx, r⟩ := q.recs ef
  obtain ⟨u, e2, a, vs, rfl, oa, ha, rr⟩ := r.get e
  refine ⟨a, S.weak h hn fun v' ev q' => ?_⟩
  rw [e1] at ev; cases ev
  have key : ∀ vfs', RecH (H x) C dx vfs' → vfs' = vfs := fun vfs' hx' => hx'.uniq hx
  cases ct with
  | ob nm fs' =>
    cases ef
    obtain ⟨x', dx', C', vfs', e3, o3, k3, hx3, r3⟩ := q'
    cases e3
    have hu := (show RecH (H x) C' dx' vfs' from .inl hx3).uniq hx
    subst hu
    exact ⟨x, dx', C', vfs', rfl, o3, k3, hx3, r3.sub e fun w hw hf => by rw [e2] at hw; cases hw; exact ⟨a, vs, rfl, ⟨oa, rfl⟩, ha, rr⟩⟩
  | ds fs' =>
    cases ef
    obtain ⟨x', vfs', e3, o3, hx3, r3⟩ := q'
    cases e3
    have hu := (show RecH (H x) 0 0 vfs' from .inr hx3).uniq hx
    subst hu
    exact ⟨x, vfs', rfl, o3, hx3, r3.sub e fun w hw hf => by rw [e2] at hw; cases hw; exact ⟨a, vs, rfl, ⟨oa, rfl⟩, ha, rr⟩⟩
  | _ => cases ef
def TagAt (nm : Str) (i : Nat) (f : Str) (a : Addr) (l : List D) (ρ : En) : Prop := ∃ fs, ρ[i]? = some (.ob nm fs) ∧ fs.lookup f = some (.tow a l)
theorem TagAt.owned {nm : Str} {i : Nat} {f : Str} {a : Addr} {l : List D} (h : TagAt nm i f a l ρ) (S : Sim0 c H O ρ τ σ) : ∃ vs, H a = some (.lst vs) ∧ Rps c.K H (c.av O) l vs := by
  obtain ⟨fs, h1, h2⟩ := h
  obtain ⟨x, dx, C, vfs, e1, o, k, hx, r⟩ := S.obj h1
  obtain ⟨u, e2, a', vs, rfl, ⟨oa, rfl⟩, ha, rr⟩ := r.get h2
  exact ⟨vs, ha, rr⟩
def rdIF (c : Cc) (K : PySem.W.Frag) (nm : Str) (i : Nat) (f : Str) : TI := fun σ H R => ∃ ρ τ l a, Sim c ρ τ σ H ∧ TagAt nm i f a l ρ ∧ R (Itl K a) H
theorem i_fld {tg : Expr} (i : Nat) {nm f x : Str} {p pos : Pos} (A : AtOk X.K c.cls nm f) (hN : X.N[i]? = some x := by rfl) (hv : Vis X.env.scope x := by first | exact Or.inl rfl | exact Or.inr (Or.inl rfl) | exact Or.inr (Or.inr rfl)) (hd : (x == ("__debug__" : Str)) = false := by decide)
    (hcd : (x == ("__classdict__" : Str)) = false := by decide) (hba : attributeBase (.Name x p) f X.env (eval (.Name x p) X.env) = eval (.Name x p) X.env := by rfl) : PI X tg (.Attribute (.Name x p) f pos) (rdIF c X.K nm i f) := by
  refine ⟨fun pins s σ H Q I h => ?_⟩
  obtain ⟨ρ, τ, l, a, ⟨O, S⟩, ⟨fs, h1, h2⟩, hQ⟩ := h
  obtain ⟨x1, dx, C, vfs, e1, o, k, hx, r⟩ := S.obj h1
  obtain ⟨hC, hA⟩ := A C k
  obtain ⟨u, hl, a', vs, rfl, ⟨oa, rfl⟩, ha, rr⟩ := r.get h2
  refine thn ((pe_fld (pe_var hN hv hd hcd) hba).run pins s σ H (fun v H1 => v = .ref a' ∧ H1 = H) I ⟨_, e1, x1, C, dx, vfs, _, rfl, hx, hC, hA, hl, rfl, rfl⟩) fun v s1 ⟨y, H1, I1, rv, e3, e4⟩ => ?_
  subst e3 e4
  cases rv
  exact it_lst I1 (SqL.of ha) hQ
def forF (nm : Str) (i : Nat) (f : Str) (a : Addr) (l : List D) (g : Tg) (T : TSp) : List D → En → Ep → Prop
  | [], ρ, E => TagAt nm i f a l ρ ∧ E.nx (unT i f ρ)
  | d :: ds, ρ, E => TagAt nm i f a l ρ ∧ oD (tgK g d ρ) fun ρ1 => T ρ1 ⟨fun ρ' => forF nm i f a l g T ds ρ' E, fun r ρ' => E.rt r (unT i f ρ'), fun ρ' => E.nx (unT i f ρ'), fun ρ' => forF nm i f a l g T ds ρ' E, fun x ρ' => E.ex x (unT i f ρ')⟩
def fldOw (nm f : Str) (ct : Option Ct) (k : List (Str × FC) → List D → Prop) : Prop := match ct with
  | some (.ob nm' fs) => nm' = nm ∧ match fs.lookup f with
    | some (.ow l) => k fs l
    | _ => False
  | _ => False
theorem fldOw.of {nm f : Str} {o : Option Ct} {k : List (Str × FC) → List D → Prop} (h : fldOw nm f o k) : ∃ fs l, o = some (.ob nm fs) ∧ fs.lookup f = some (.ow l) ∧ k fs l := by
  unfold fldOw at h
  split at h
  · obtain ⟨rfl, h⟩ := h
    split at h
    · rename_i e; exact ⟨_, _, rfl, e, h⟩
    · exact h.elim
  · exact h.elim
/-- for g in x.f: body, the list stays owned -/
def sForF (nm : Str) (i : Nat) (f : Str) (g : Tg) (T : TSp) : TSp := fun ρ E => fldOw nm f ρ[i]? fun fs l => ∀ a, forF nm i f a l g T l (ρ.set i (.ob nm (putA f (.tow a l) fs))) E
theorem s_forF (i : Nat) {nm f x : Str} {T : TSp} {g : Tg} {tg : Expr} {p pos pos' : Pos} {body : List Stmt} (hp : PassesOwn (model X.prog X.w) X.A X.env X.xe) (hc : X.calm = true) (A : AtOk X.K c.cls nm f)
    (hg : PGp c X tg g) (hb : PSsp c ek0 X body T) (hN : X.N[i]? = some x := by rfl) (hv : Vis X.env.scope x := by first | exact Or.inl rfl | exact Or.inr (Or.inl rfl) | exact Or.inr (Or.inr rfl)) (hd : (x == ("__debug__" : Str)) = false := by decide)
    (hcd : (x == ("__classdict__" : Str)) = false := by decide) (hba : attributeBase (.Name x p) f X.env (eval (.Name x p) X.env) = eval (.Name x p) X.env := by rfl)
    (hs : ∀ y, foldedSetIterable (.Attribute (.Name x p) f pos') X.env y = pure y := by intro _; rfl)   : PSp c ek0 X (.For tg (.Attribute (.Name x p) f pos') body [] pos) (sForF nm i f g T) := by
  refine ⟨fun pins s σ H D I h => ?_⟩
  obtain ⟨ρ, τ, E, S, n, hT, q1, q2, q3, q4, q5⟩ := h
  obtain ⟨fs, l, e1, e2, hT⟩ := hT.of
  obtain ⟨O, S⟩ := S
  obtain ⟨a, S1⟩ := S.tag e1 rfl e2
  have hT := hT a
  have htag : TagAt nm i f a l (ρ.set i (.ob nm (putA f (.tow a l) fs))) := by
    have hi : i < ρ.length := (List.getElem?_eq_some_iff.mp e1).1
    exact ⟨_, List.getElem?_set_self hi, by rw [lookup_putA, if_pos rfl]⟩
  refine (ps_for hp hc (i_fld (c := c) i A hN hv hd hcd hba) hg hb hs).run pins s σ H D I ⟨_, τ, l, a, ⟨O, S1⟩, htag, ?_⟩
  refine ⟨fun k m σ H => m = l.length - k ∧ k ≤ l.length ∧ ∃ ρ, Sim c ρ τ σ H ∧ forF nm i f a l g T (l.drop k) ρ E, ⟨l.length, by simp, Nat.zero_le _, _, ⟨O, S1⟩, hT⟩, ?_⟩
  rintro k m σ' H' ⟨rfl, hk, ρ', S2, hf⟩
  obtain ⟨O2, S2⟩ := S2
  by_cases hlt : k < l.length
  · have hd' : l[k]? = some l[k] := List.getElem?_eq_getElem hlt
    rw [List.drop_eq_getElem_cons hlt] at hf
    obtain ⟨ht, hf⟩ := hf
    obtain ⟨vs, ha, rr⟩ := ht.owned S2
    obtain ⟨w, hw, rw'⟩ := rr.get hd'
    obtain ⟨ρ3, e3, hf⟩ := hf.of
    refine .inr ⟨⟨vs, w, SqL.of ha, hw⟩, fun σ' H' => ∃ ρ, Sim c ρ τ σ' H' ∧ forF nm i f a l g T (l.drop (k + 1)) ρ E, fun σ' H' hN => ⟨l.length - (k + 1), by omega, rfl, hlt, hN⟩, fun y H2 hy => ?_⟩
    obtain ⟨eH, hy⟩ := hy
    subst eH
    have hy := hy vs (SqL.of ha)
    rw [hw] at hy; cases hy
    exact ⟨ρ', τ, l[k], ρ3, O2, S2, .inl n, rw', e3, fun σ2 _ S6 => ⟨ρ3, τ, _, ⟨O2, S6⟩, n, hf, fun ρ' σ' H' e S' => ⟨ρ', S', e⟩, fun ρ' σ' H' e S' => q1 _ _ _ e S'.un, fun ρ' σ' H' e S' => ⟨ρ', S', e⟩, fun r ρ' v σ' H' e S' => q4 _ _ _ _ _ e S'.un, fun σ y ρ z => q5 σ y _ z⟩⟩
  · have e : k = l.length := by omega
    subst e
    rw [List.drop_length] at hf
    obtain ⟨ht, hf⟩ := hf
    obtain ⟨vs, ha, rr⟩ := ht.owned S2
    exact .inl ⟨⟨vs, SqL.of ha, by rw [rr.length]; exact Nat.le_refl _⟩, q1 _ _ _ hf (Sim.un ⟨O2, S2⟩)⟩

/-! ### a comprehension over an owned list of a field -/
def lcF (nm : Str) (i : Nat) (f : Str) (a : Addr) (l : List D) (g : Tg) (tt : TTp) (te : TEp) (own : List Nat) (E : Exn → En → Prop) (R : R → En → Prop) : List D → List D → En → Prop
  | [], acc, ρ => TagAt nm i f a l ρ ∧ R (.va (Wl acc)) (unT i f ρ)
  | d :: ds, acc, ρ => TagAt nm i f a l ρ ∧ oD (tgK g d (wipeE ρ own)) fun ρ2 => tt ρ2 (fun b ρ3 => if b = true then te ρ3 (fun r ρ4 => oD (fzC ρ4 r) fun p => acc.length < sizeLine ∧ lcF nm i f a l g tt te own E R ds (acc ++ [p.1]) (wipeE p.2 own)) E else lcF nm i f a l g tt te own E R ds acc (wipeE ρ3 own)) E
def tLcF (nm : Str) (i : Nat) (f : Str) (g : Tg) (tt : TTp) (te : TEp) (own : List Nat) : TEp := fun ρ R E => fldOw nm f ρ[i]? fun fs l => ∀ a, lcF nm i f a l g tt te own E R l [] (wipeE (ρ.set i (.ob nm (putA f (.tow a l) fs))) own)
theorem lc_rdF {nm f : Str} {j : Nat} {g : Tg} {tt : TTp} {te : TEp} {own : List Nat} {Q : VK} {K : PySem.W.Frag} (hj : j < c.nb) (hown : ∀ i ∈ own, c.nb ≤ i) (hlk : ∀ i ∈ own, i ∉ c.lock) (hg : ∀ i ∈ g.sl, i ∈ own) (hek : ∀ E0 σ σ', ek E0 σ → ek E0 σ')
    (h : rd c ek fl (tLcF nm j f g tt te own) σ H Q) : tLc (rdIF c K nm j f) (rdG c g) (rdT c ek fl tt) (rd c ek fl te) own σ H Q := by
  obtain ⟨ρ, τ, R0, E0, S, hT, hQ, hE⟩ := h
  obtain ⟨fs, l, e1, e2, hT⟩ := hT.of
  obtain ⟨O, S⟩ := S
  obtain ⟨p, S⟩ := S.tag e1 rfl e2
  have hT := hT p
  have hjl : j < ρ.length := (List.getElem?_eq_some_iff.mp e1).1
  have htag : TagAt nm j f p l (ρ.set j (.ob nm (putA f (.tow p l) fs))) := ⟨_, List.getElem?_set_self hjl, by rw [lookup_putA, if_pos rfl]⟩
  have S : Sim0 c H O (ρ.set j (.ob nm (putA f (.tow p l) fs))) τ σ := S
  generalize ρ.set j (.ob nm (putA f (.tow p l) fs)) = ρ at S hT htag
  have hjo : j ∉ own := fun z => by have := hown j z; omega
  refine ⟨ρ, τ, l, p, ⟨O, S⟩, htag, ?_⟩
  intro D hD
  have nalf3 : ∀ acc, fl = true → NoAlf ((V.ref D, R.va (Wl acc)) :: τ) := fun acc z w i f m => by
    rcases List.mem_cons.mp m with e | m
    · cases e
    · exact hE.2 z w i f m
  refine ⟨fun i m H => m = l.length - i ∧ i ≤ l.length ∧ ∃ ρ acc, Sim c ρ ((.ref D, .va (Wl acc)) :: τ) (wipe σ own) H ∧ (∀ j ∈ own, ∀ ct, ρ[j]? = some ct → ct = .no) ∧ lcF nm j f p l g tt te own E0 R0 (l.drop i) acc ρ,
    ⟨l.length, by simp, Nat.zero_le _, wipeE ρ own, [], ?_, fun j hj ct q => wipeE_in hj ct q, hT⟩, ?_⟩
  · obtain ⟨O2, S2⟩ := S.newLst hD Rps.nil
    exact ⟨O2, S2.wipe hown hlk (wipe_length σ own) (fun i hi => wipe_outS hi)⟩
  · rintro i m H2 ⟨rfl, hi, ρ2, acc, S2, hno, hk⟩
    obtain ⟨O2, S2⟩ := S2
    by_cases hlt : i < l.length
    · have hd : l[i]? = some l[i] := List.getElem?_eq_getElem hlt
      rw [List.drop_eq_getElem_cons hlt] at hk
      obtain ⟨ho2, hk⟩ := hk
      obtain ⟨vs, ha, rr⟩ := ho2.owned S2
      obtain ⟨w, hw, rw'⟩ := rr.get hd
      refine .inr ⟨⟨vs, w, SqL.of ha, hw⟩, fun H' => ∃ ρ acc, Sim c ρ ((.ref D, .va (Wl acc)) :: τ) (wipe σ own) H' ∧ (∀ j ∈ own, ∀ ct, ρ[j]? = some ct → ct = .no) ∧ lcF nm j f p l g tt te own E0 R0 (l.drop (i + 1)) acc ρ, fun H' hN => ⟨l.length - (i + 1), by omega, rfl, hlt, hN⟩, fun x H' y => ?_⟩
      obtain ⟨e1, y⟩ := y
      subst e1
      have y := y vs (SqL.of ha)
      rw [hw] at y
      cases y
      obtain ⟨ρ', e1, hk⟩ := hk.of
      refine ⟨wipeE ρ2 own, _, l[i], ρ', O2, S2.wipe hown hlk rfl (fun _ _ => rfl), .inr (fun j hj => hown j (hg j hj)), rw', e1, fun σ2 agr S4 => ⟨wipe_agr agr hg, ?_⟩⟩
      have back : ∀ {ρ5 : En} {H5 : Hp} {O5 : Ow} {acc : List Pm.D}, Sim0 c H5 O5 ρ5 ((.ref D, .va (Wl acc)) :: τ) σ2 → Sim0 c H5 O5 (wipeE ρ5 own) ((.ref D, .va (Wl acc)) :: τ) (wipe σ own) := fun {ρ5 H5 O5 acc} S =>
        S.wipe hown hlk agr.1.symm (fun j hj => (agr.2 j (fun z => hj (hg j z))).symm)
      refine ⟨ρ', _, _, E0, ⟨O2, S4⟩, hk, fun b ρ3 H3 h3 S5 => ?_, hek _ _ _ hE.1, nalf3 acc⟩
      cases b with
      | true =>
        rw [if_pos rfl] at h3 ⊢
        refine ⟨ρ3, _, _, E0, S5, h3, fun r ρ4 y H4 h4 S6 => ?_, hek _ _ _ hE.1, nalf3 acc⟩
        obtain ⟨O6, S6⟩ := S6
        obtain ⟨⟨dy, ρ5⟩, e5, h4⟩ := h4.of
        obtain ⟨O7, S7, r7, _⟩ := fzC_ok S6 e5
        obtain ⟨vs, hv, hl, S8⟩ := S7.appTop r7
        exact ⟨vs, hv, by rw [hl]; exact h4.1, _, _, ⟨_, back S8⟩, fun j hj ct q => wipeE_in hj ct q, h4.2⟩
      | false =>
        rw [if_neg Bool.false_ne_true] at h3 ⊢
        obtain ⟨O5, S5⟩ := S5
        exact ⟨_, acc, ⟨_, back S5⟩, fun j hj ct q => wipeE_in hj ct q, h3⟩
    · have e : i = l.length := by omega
      subst e
      rw [List.drop_length] at hk
      obtain ⟨ho2, hk⟩ := hk
      obtain ⟨vs, ha, rr⟩ := ho2.owned S2
      refine .inl ⟨⟨vs, SqL.of ha, by rw [rr.length]; exact Nat.le_refl _⟩, hQ _ _ _ _ hk ?_⟩
      have := S2.wipe (σ' := σ) hown hlk (wipe_length σ own).symm (fun j hj => (wipe_outS hj).symm)
      rw [wipeE_eq hno] at this
      exact Sim.un ⟨O2, this⟩
variable {elt tg : Expr} {ifs : List Expr} {scope : Scope} {own : List (Str × Nat)} {g : Tg} {tt : TTp} {Te : TEp} {pos : Pos}
theorem p_lcF (j : Nat) {nm f x : Str} {py pos' : Pos} (A : AtOk X.K c.cls nm f) (hj : j < c.nb) (hc : X.calm = true) (hN : X.N.Nodup) (ok : BlkOk X.N X.env.scope scope own) (hown : ∀ i ∈ own.map (·.2), c.nb ≤ i) (hlk : ∀ i ∈ own.map (·.2), i ∉ c.lock) (hsl : ∀ i ∈ g.sl, i ∈ own.map (·.2))
    (hg : ∀ (s : Shared) (H : Hp) (C : Addr) (cl : List (Str × Addr)) (fp : List Addr), PGp c (X.blk s H scope (compEnvC scope cl C X.env) fp) tg g) (ht : ∀ (s : Shared) (H : Hp) (C : Addr) (cl : List (Str × Addr)) (fp : List Addr), PTsp c ek0 fl (X.blk s H scope (compEnvC scope cl C X.env) fp) ifs tt)
    (he : ∀ (s : Shared) (H : Hp) (C : Addr) (cl : List (Str × Addr)) (fp : List Addr), PEp c ek0 fl (X.blk s H scope (compEnvC scope cl C X.env) fp) elt Te)
    (hNx : X.N[j]? = some x := by rfl) (hv : Vis X.env.scope x := by first | exact Or.inl rfl | exact Or.inr (Or.inl rfl) | exact Or.inr (Or.inr rfl)) (hd : (x == ("__debug__" : Str)) = false := by decide)
    (hcd : (x == ("__classdict__" : Str)) = false := by decide) (hba : attributeBase (.Name x py) f X.env (eval (.Name x py) X.env) = eval (.Name x py) X.env := by rfl) (hs : ∀ y, foldedSetIterable (.Attribute (.Name x py) f pos') X.env y = pure y := by intro _; rfl) :
    PEp c ek0 fl X (.ListComp elt [⟨tg, .Attribute (.Name x py) f pos', ifs, 0⟩] scope pos) (tLcF nm j f g tt Te (own.map (·.2))) :=
  ⟨fun pins s σ H Q I h => (pe_lc hc hN (i_fld (c := c) j A hNx hv hd hcd hba) ok hg ht he hs).run pins s σ H Q I (lc_rdF hj hown hlk hsl ek0_any h)⟩
/-- y = [.. for .. in z], z an owned list that stays owned -/
theorem s_setLcO (j k : Nat) {x y : Str} {py pz spos : Pos} (hk : k < c.nb) (hc : X.calm = true) (hN : X.N.Nodup) (hj : j ∉ c.lock) (ok : BlkOk X.N X.env.scope scope own) (hown : ∀ i ∈ own.map (·.2), c.nb ≤ i) (hlk : ∀ i ∈ own.map (·.2), i ∉ c.lock) (hsl : ∀ i ∈ g.sl, i ∈ own.map (·.2))
    (hg : ∀ (s : Shared) (H : Hp) (C : Addr) (cl : List (Str × Addr)) (fp : List Addr), PGp c (X.blk s H scope (compEnvC scope cl C X.env) fp) tg g) (ht : ∀ (s : Shared) (H : Hp) (C : Addr) (cl : List (Str × Addr)) (fp : List Addr), PTsp c ek0 true (X.blk s H scope (compEnvC scope cl C X.env) fp) ifs tt)
    (he : ∀ (s : Shared) (H : Hp) (C : Addr) (cl : List (Str × Addr)) (fp : List Addr), PEp c ek0 true (X.blk s H scope (compEnvC scope cl C X.env) fp) elt Te)
    (hy : X.N[j]? = some y := by rfl) (hyl : X.env.scope.names.lookup y = some .local := by rfl)
    (hNx : X.N[k]? = some x := by rfl) (hv : Vis X.env.scope x := by first | exact Or.inl rfl | exact Or.inr (Or.inl rfl) | exact Or.inr (Or.inr rfl)) (hd : (x == ("__debug__" : Str)) = false := by decide)
    (hcd : (x == ("__classdict__" : Str)) = false := by decide) (hs : ∀ y, foldedSetIterable (.Name x pz) X.env y = pure y := by intro _; rfl) :
    PSp c ek0 X (.Assign [.Name y py] (.ListComp elt [⟨tg, .Name x pz, ifs, 0⟩] scope pos) spos) (sSet j (tLcO k g tt Te (own.map (·.2)))) := by
  rcases sw_or (elt := elt) (gs := [⟨tg, .Name x pz, ifs, 0⟩]) (scope := scope) (pos := pos) (py := py) (y := y) (l := spos.line) (env := X.env) with h | h
  · refine ⟨fun pins s σ H D I h' => ?_⟩
    obtain ⟨ρ, τ, E, S, n, hT, q1, q2, q3, q4, q5⟩ := h'
    refine (ps_setLc hc hN hy hyl h (i_own (c := c) k hNx hv hd hcd) ok hg ht he hs).run pins s σ H D I (lc_rdO hk hown hlk hsl ek0_any ⟨ρ, τ, _, _, S, hT, fun r ρ' v H' h1 S1 => ?_, q5 σ, fun _ => n.alf⟩)
    obtain ⟨ct, ρ2, h2, O, S2⟩ := stC_ok S1 h1
    exact q1 _ _ _ h2 (S2.put n hj)
  · exact s_set j hN (p_lcO (c := c) k hk hc hN ok hown hlk hsl hg ht he hNx hv hd hcd hs) hj hy (.inl hyl) h (.inr hyl)
end
section
variable {ρ : En} {Ee : Exn → En → Prop} {Rr : R → En → Prop} {t : TTp} {Te : TEp} {T : TSp} {E : Ep} {g : Tg} {own : List Nat} {i j : Nat} {nm nm' f : Str} {a : Addr} {l l0 : List D} {fs : List (Str × FC)} {k : List (Str × FC) → List D → Prop} {fc : FC}
/-! ### equations -/
theorem e_forF : sForF nm i f g T ρ E = fldOw nm f ρ[i]? fun fs l => ∀ a, forF nm i f a l g T l (ρ.set i (.ob nm (putA f (.tow a l) fs))) E := rfl
theorem e_lcF : tLcF nm i f g t Te own ρ Rr Ee = fldOw nm f ρ[i]? fun fs l => ∀ a, lcF nm i f a l g t Te own Ee Rr l [] (wipeE (ρ.set i (.ob nm (putA f (.tow a l) fs))) own) := rfl
def fldOw2 (k : List (Str × FC) → List D → Prop) (fs : List (Str × FC)) : Option FC → Prop
  | some (.ow l) => k fs l
  | _ => False
theorem fldOw_ob : fldOw nm f (some (.ob nm fs)) k = fldOw2 k fs (fs.lookup f) := by
  show (nm = nm ∧ _) = _
  unfold fldOw2
  rw [eq_true (rfl : nm = nm), true_and]
theorem fldOw2_ow : fldOw2 k fs (some (.ow l)) = k fs l := rfl
theorem forF_nil : forF nm i f a l g T [] ρ E = (TagAt nm i f a l ρ ∧ E.nx (unT i f ρ)) := rfl
theorem forF_cons {d : D} {ds : List D} : forF nm i f a l g T (d :: ds) ρ E = (TagAt nm i f a l ρ ∧ oD (tgK g d ρ) fun ρ1 => T ρ1 ⟨fun ρ' => forF nm i f a l g T ds ρ' E, fun r ρ' => E.rt r (unT i f ρ'), fun ρ' => E.nx (unT i f ρ'), fun ρ' => forF nm i f a l g T ds ρ' E, fun x ρ' => E.ex x (unT i f ρ')⟩) := rfl
def tagK (nm f : Str) (a : Addr) (l : List D) : Option Ct → Prop
  | some (.ob nm' fs) => nm' = nm ∧ fs.lookup f = some (.tow a l)
  | _ => False
theorem tag_at : TagAt nm i f a l ρ = tagK nm f a l ρ[i]? := by
  apply propext
  unfold TagAt tagK
  cases ρ[i]? with
  | none => exact ⟨fun ⟨_, h, _⟩ => (by cases h), fun h => h.elim⟩
  | some ct =>
    cases ct with
    | ob nm' fs => exact ⟨fun ⟨_, h, q⟩ => (by cases h; exact ⟨rfl, q⟩), fun ⟨h, q⟩ => ⟨fs, by rw [h], q⟩⟩
    | _ => exact ⟨fun ⟨_, h, _⟩ => (by cases h), fun h => h.elim⟩
theorem tagK_ob : tagK nm f a l (some (.ob nm fs)) = (fs.lookup f = some (.tow a l)) := by
  show (nm = nm ∧ _) = _
  rw [eq_true (rfl : nm = nm), true_and]
def unTc (i : Nat) (f : Str) (ρ : En) : Option Ct → En
  | some (.ob nm fs) => unTk i f ρ (.ob nm fs) (fs.lookup f)
  | some (.ds fs) => unTk i f ρ (.ds fs) (fs.lookup f)
  | _ => ρ
theorem e_unT : unT i f ρ = unTc i f ρ ρ[i]? := by
  unfold unT unTc
  cases ρ[i]? with
  | none => rfl
  | some ct => cases ct <;> rfl
theorem unTc_ob : unTc i f ρ (some (.ob nm fs)) = unTk i f ρ (.ob nm fs) (fs.lookup f) := rfl
theorem unTk_ob : unTk i f ρ (.ob nm fs) (some fc) = ρ.set i (.ob nm (putA f (fcU fc) fs)) := rfl
/-- a pure one over a field: the state stays -/
theorem lcF_pure {α : Type} {h0 : α → D} {l0 : List D} (h : α → List D) (ρ : En) (P : α → Prop) (ho : TagAt nm i f a l0 ρ)
    (step : ∀ (x : α) (acc : List D) (K : List D → En → Prop), P x → acc.length < sizeLine → K (acc ++ h x) ρ → oD (tgK g (h0 x) (wipeE ρ own)) fun ρ2 => t ρ2 (fun b ρ3 => if b = true then Te ρ3 (fun r ρ4 => oD (fzC ρ4 r) fun p => acc.length < sizeLine ∧ K (acc ++ [p.1]) (wipeE p.2 own)) Ee else K acc (wipeE ρ3 own)) Ee)
    (h1 : ∀ x, (h x).length ≤ 1) :
    ∀ (l : List α) (acc : List D), (∀ x ∈ l, P x) → acc.length + l.length ≤ sizeLine → Rr (.va (Wl (acc ++ l.flatMap h))) (unT i f ρ) → lcF nm i f a l0 g t Te own Ee Rr (l.map h0) acc ρ
  | [], acc, _, _, q => by rw [List.map_nil]; exact ⟨ho, by simpa using q⟩
  | x :: l, acc, hP, hl, q => by
    rw [List.map_cons]
    rw [List.length_cons] at hl
    refine ⟨ho, step x acc _ (hP x List.mem_cons_self) (by omega) (lcF_pure h ρ P ho step h1 l (acc ++ h x) (fun x hx => hP x (List.mem_cons_of_mem _ hx)) ?_ ?_)⟩
    · have := h1 x
      rw [List.length_append]; omega
    · rw [List.append_assoc]; exact q
end
end Pm

namespace Pm
open PySem PySem.Spec PyProof.Rows L2
section
variable {c : Cc} {O O' : Ow} {H H' : Hp} {ρ ρ' : En} {τ τ' : List (V × R)} {σ σ' : St} {v : V} {ℓ ℓ' : Lab} {ct : Ct} {X : Cx} {ek : EK} {fl : Bool}
variable {a b e : Expr} {rest : List Expr} {Ta Tb Te : TEp} {TA' TB' TT' : TTp} {pos : Pos} {T U : TSp} {TA TB : TAp} {es : List Expr}
/-! ### *a, b = a list -/
theorem star_items {prog : Program} {w : World} {A : Around} {E : Value → Shared → Prop} {s : Shared} {l : Addr} {items : Array Value} {Q : List Value → Shared → Prop} (hl : s.heap.IsList l items) (hh : A.handled = none) (hn : 1 ≤ items.size) (hz : items.size ≤ 16384)
    (h : ∀ (h' : Heap) (tk : Nat), (∀ b o, s.heap.get? b = some o → h'.get? b = some o) → Q ([.ref h'.objs.size] ++ items.toList.drop (items.size - 1)) { s with heap := h'.push { cls := .type "list", data := .seq (items.toList.take (items.size - 1)).toArray }, toks := tk }) : wpAny (model prog w) A (unpackItems (.ref l) 2 (some 0)) Q E s := by
  have hlt : l ≠ s.heap.objs.size := by obtain ⟨o, ho, _⟩ := hl; exact Nat.ne_of_lt (Heap.lt_size ho)
  have hll : l < s.heap.objs.size := by obtain ⟨o, ho, _⟩ := hl; exact Heap.lt_size ho
  unfold unpackItems
  refine wpAny_bind ?_
  unfold notIterableAtAll
  refine wpAny_bind (wpAny_specialOf hl.typeIs slot_list_iter.lookup ?_)
  refine wpAny_pure ?_
  simp only [Bool.false_eq_true, if_false]
  refine wpAny_bind (wpAny_holding (wpAny_pyIter_list hl ?_))
  refine wpAny_bind (wpAny_holding (PySem.W.kun_draw hlt 0 0 _ _ ⟨_, Heap.get?_push_size _ rfl, rfl, rfl⟩ (hl.push _) (by omega) fun h₁ hit₁ hs₁ => ?_))
  have hl₁ : h₁.IsList l items := (hl.push _).extBut hs₁.extBut hlt
  rw [Nat.zero_add] at hit₁
  have hit₁' := hit₁
  obtain ⟨oi, hoi, _⟩ := hit₁'
  have hl₁' := hl₁
  obtain ⟨ol, hol, _⟩ := hl₁'
  rw [List.drop_zero, List.take_zero]
  rw [if_neg (by simp)]
  refine wpAny_bind (wpAny_holding (PySem.W.kun_collect (s := { s with heap := h₁ }) (T := "list_iterator") (.inr (.inr (.inl rfl))) (Walks.list (A := A.in1) hh s.heap.objs.size l hlt items) (fun j u st => st.1.typeIs) (k := 0) (by omega) ⟨hit₁, hl₁⟩ (Heap.lt_size hoi) (Heap.lt_size hol) (fun h₂ tk hk => ?_) (by rw [sizeLine_eq]; omega)))
  rw [List.drop_zero]
  rw [if_neg (by rw [Array.length_toList]; omega)]
  have hmid : items.toList.length - (2 - 1 - 0) = items.size - 1 := by rw [Array.length_toList]
  rw [hmid]
  have he : ∀ b o, s.heap.get? b = some o → h₂.get? b = some o := fun b o e => hk b o (Nat.ne_of_lt (Heap.lt_size e)) (hs₁.extBut b o (Nat.ne_of_lt (Heap.lt_size e)) (Heap.get?_push_of_some _ e))
  refine wpAny_bind (wpAny_newList ?_ ?_)
  · exact wpAny_pure (h h₂ tk he)
  · rw [List.length_take, sizeLine_eq]; omega
theorem vals_last : ∀ {xs : List V} {us : List Value}, Vals xs us → xs ≠ [] → ∃ y u, xs[xs.length - 1]? = some y ∧ us.drop (us.length - 1) = [u] ∧ RelV y u ∧ Vals xs.dropLast (us.take (us.length - 1))
  | [], _, _, h => absurd rfl h
  | [x], _, .cons r .nil, _ => ⟨x, _, rfl, rfl, r, .nil⟩
  | x :: y :: l, _, .cons r (.cons r2 rr), _ => by
    obtain ⟨z, u, e1, e2, e3, e4⟩ := vals_last (.cons r2 rr) (by simp)
    refine ⟨z, u, by simpa using e1, ?_, e3, ?_⟩
    · simpa using e2
    · rw [List.dropLast_cons₂]
      have : ∀ {α : Type} {p q : α} {m : List α}, (p :: q :: m).take ((p :: q :: m).length - 1) = p :: (q :: m).take ((q :: m).length - 1) := by intros; simp
      rw [this]
      exact .cons r e4
theorem pgs_star {e : Expr} {sp : Pos} {es : List Expr} {t : TG} {u : TGs} (h1 : PG X e t) (h2 : PGs X es u)
    (hs : (assignEach (.Starred e sp :: es) X.env).map (·.2) = assign e X.env :: (assignEach es X.env).map (·.2) := by rfl) : PGs X (.Starred e sp :: es) (gCons t u) := by
  refine ⟨fun pins s σ H vs us Q I r h => ?_⟩
  obtain ⟨v, vr, e1, h⟩ := h
  subst e1
  cases r with
  | cons r rr =>
    rw [hs]
    refine assignInOrder_cons (thn (h1.run pins s σ H _ _ _ I r h) fun _ s1 ⟨σ1, H1, I1, q1⟩ => ?_)
    exact h2.run pins s1 σ1 H1 _ _ Q I1 rr q1
def gStar (K : PySem.W.Frag) (i j : Nat) : TG := fun v σ H Q => ∃ a xs, v = .ref a ∧ SqL K H a xs ∧ 1 ≤ xs.length ∧ xs.length ≤ 16384 ∧ ∀ D y, H D = none → xs[xs.length - 1]? = some y → Q ((σ.set i (some (.ref D))).set j (some y)) (upd H D (.lst xs.dropLast))
theorem pg_star {i j : Nat} {x y : Str} {px py sp : Pos} {k : Nat} (hc : X.calm = true) (hN : X.N.Nodup) (hi : X.N[i]? = some x := by rfl) (hj : X.N[j]? = some y := by rfl) (hx : X.env.scope.names.lookup x = some .local := by rfl) (hy : X.env.scope.names.lookup y = some .local := by rfl)
    (hn : (assignEach [.Starred (.Name x px) sp, .Name y py] X.env).length = 2 := by rfl) (hst : (assignEach [.Starred (.Name x px) sp, .Name y py] X.env).findIdx? (·.1) = some 0 := by rfl)
    (hs : (assignEach [.Starred (.Name x px) sp, .Name y py] X.env).map (·.2) = assign (.Name x px) X.env :: (assignEach [.Name y py] X.env).map (·.2) := by rfl)
    (hs2 : (assignEach [.Name y py] X.env).map (·.2) = assign (.Name y py) X.env :: (assignEach [] X.env).map (·.2) := by rfl) : PG X (.Tuple [.Starred (.Name x px) sp, .Name y py] k pos) (gStar X.K i j) := by
  refine ⟨fun pins s σ H v u Q I r hw => ?_⟩
  obtain ⟨a, xs, e1, hq, hl, hz, hw⟩ := hw
  subst e1
  cases r
  obtain ⟨its, rv, pl, _⟩ := I.list hq
  have hl' : s.heap.IsList a its.toArray := by
    obtain ⟨o, m, e, c, d, q⟩ := pl
    exact ⟨o, e, c, m, q⟩
  have hlen : its.length = xs.length := rv.length.symm
  obtain ⟨y', u, ey, eu, ru, rvd⟩ := vals_last rv (by intro z; subst z; simp at hl)
  rw [PyProof.Rows.assign_Tuple]
  refine wpAny_bind (wpAny_standAt ?_)
  unfold unpack
  rw [hn, hst]
  refine wpAny_bind (wpAny_holding (star_items hl' (I.ok.hd hc) (by rw [List.size_toArray]; omega) (by rw [List.size_toArray]; omega) fun h' tk he => ?_))
  have I1 : Inv X pins σ H { s with heap := h', toks := tk } := I.kept fun b o e => he b o e
  have hp : H h'.objs.size = none := I1.hok.fresh (Nat.le_refl _)
  have z1 : its.toArray.size = its.length := by simp
  have z2 : its.toArray.toList = its := by simp
  rw [z1, z2]
  have I2 : Inv X pins σ (upd H h'.objs.size (.lst xs.dropLast)) { s with heap := h'.push { cls := .type "list", data := .seq (its.take (its.length - 1)).toArray }, toks := tk } :=
    I1.laid (fun b u q => Heap.get?_push_of_some _ q) (Nat.le_refl _) ⟨by rw [List.length_dropLast, sizeLine_eq]; omega, its.take (its.length - 1), _, rvd, Heap.get?_push_size _ rfl⟩
  rw [eu]
  refine (pgs_star (pg_name hN hi (.inl hx) (.inr hx)) (pgs_cons (pg_name hN hj (.inl hy) (.inr hy)) pgs_nil hs2) hs).run pins _ σ _ [.ref h'.objs.size, y'] _ Q I2 (.cons rfl (.cons ru .nil)) ?_
  exact ⟨_, _, rfl, _, _, rfl, rfl, hw _ _ hp ey⟩
def sStar (i j : Nat) (Te : TEp) : TSp := fun ρ E => Te ρ (fun r ρ' => oD (fzC ρ' r) fun p => match p.1 with
  | .lst l => l.length ≤ 16384 ∧ oD l[l.length - 1]? fun d => E.nx ((p.2.set i (Wl l.dropLast)).set j (Fz d))
  | _ => False) E.ex
theorem s_star (i j : Nat) {x y : Str} {px py sp tp : Pos} {k : Nat} (hc : X.calm = true) (hN : X.N.Nodup) (he : PEp c ek true X e Te) (hil : i ∉ c.lock) (hjl : j ∉ c.lock) (hi : X.N[i]? = some x := by rfl) (hj : X.N[j]? = some y := by rfl) (hx : X.env.scope.names.lookup x = some .local := by rfl) (hy : X.env.scope.names.lookup y = some .local := by rfl)
    (hn : (assignEach [.Starred (.Name x px) sp, .Name y py] X.env).length = 2 := by rfl) (hst : (assignEach [.Starred (.Name x px) sp, .Name y py] X.env).findIdx? (·.1) = some 0 := by rfl)
    (hs : (assignEach [.Starred (.Name x px) sp, .Name y py] X.env).map (·.2) = assign (.Name x px) X.env :: (assignEach [.Name y py] X.env).map (·.2) := by rfl)
    (hs2 : (assignEach [.Name y py] X.env).map (·.2) = assign (.Name y py) X.env :: (assignEach [] X.env).map (·.2) := by rfl)
    (hsw : swapsWithSole [.Tuple [.Starred (.Name x px) sp, .Name y py] k tp] e pos.line X.env = pure false := by rfl) (hw : swappedStores [.Tuple [.Starred (.Name x px) sp, .Name y py] k tp] e X.env = pure none := by rfl)
    (h1 : (assignEach [.Tuple [.Starred (.Name x px) sp, .Name y py] k tp] X.env).map (·.2) = [assign (.Tuple [.Starred (.Name x px) sp, .Name y py] k tp) X.env] := by rfl) (hK : X.K = c.K := by rfl) : PSp c ek X (.Assign [.Tuple [.Starred (.Name x px) sp, .Name y py] k tp] e pos) (sStar i j Te) := by
  refine ⟨fun pins s σ H D I h => ?_⟩
  obtain ⟨ρ, τ, E, S, n, hT, q1, q2, q3, q4, q5⟩ := h
  refine (ps_asg he (pg_star (i := i) (j := j) hc hN hi hj hx hy hn hst hs hs2) hsw hw h1).run pins s σ H D I ⟨ρ, τ, _, _, S, hT, fun r ρ' w H' h1 S1 => ?_, q5 σ, fun _ => n.alf⟩
  obtain ⟨⟨d, ρ1⟩, e1, h1⟩ := h1.of
  obtain ⟨O, S1⟩ := S1
  obtain ⟨O2, S2, rp, _⟩ := fzC_ok S1 e1
  dsimp only at h1
  split at h1
  · rename_i l
    obtain ⟨hl, h1⟩ := h1
    obtain ⟨d, ed, h1⟩ := h1.of
    obtain ⟨a, vs, rfl, ha, rr⟩ := rp.top.lst
    have hlen := rr.length
    have hpos : 1 ≤ l.length := by
      rcases Nat.eq_zero_or_pos l.length with z | z
      · rw [List.eq_nil_of_length_eq_zero z] at ed; cases ed
      · exact z
    refine ⟨a, vs, rfl, SqL.of ha, by omega, by omega, fun D' y' hD hy' => q1 _ _ _ h1 ?_⟩
    obtain ⟨w2, hw2, rw2⟩ := rr.get ed
    rw [hlen, hw2] at hy'; cases hy'
    have n2 : NoAl ((y', R.va (Fz d)) :: τ) := fun u r m => by
      rcases List.mem_cons.mp m with e | m
      · cases e; exact ⟨_, rfl⟩
      · exact n u r m
    have S3 : Sim0 c H' O2 ρ1 ((y', .va (Fz d)) :: τ) σ := S2.push (ct := Fz d) rw2
    obtain ⟨O4, S4⟩ := S3.newLst hD rr.dropLast
    obtain ⟨O5, S5⟩ := S4.put n2 hil
    exact S5.put n hjl
  · exact h1.elim
/-! ### methods of texts -/
theorem rps_ofStrs {K : PySem.W.Frag} {A : Av} : ∀ ss : List Str, Rps K H A (ss.map .str) (ss.map V.str)
  | [] => .nil
  | x :: ss => .cons (Rp.ofStr x) (rps_ofStrs ss)
def fSplit : MpF := fun d ds Q => match d, ds with
  | .str a, [.str b] => (b.length == 0) = false ∧ a.length + 2 ≤ sizeLine ∧ Q (Wl ((Txt.split a b).map .str))
  | _, _ => False
theorem split_ok : MpOk c fSplit (fun x xs H Q => ∃ a b, x = .str a ∧ xs = [.str b] ∧ (b.length == 0) = false ∧ a.length + 2 ≤ sizeLine ∧ rNewStrs (Txt.split a b) H Q) := by
  intro σ ρ τ O H v ws d ds Q K0 S hv rd h hQ
  unfold fSplit at h
  split at h
  · rename_i a b
    obtain ⟨w, r, rfl, r1, r2⟩ := rd
    unfold Rps at r2; subst r2
    rw [hv.str, r1.top.str]
    exact ⟨a, b, rfl, rfl, h.1, h.2.1, fun p hp => hQ _ _ _ h.2.2 (S.newLst hp (rps_ofStrs _))⟩
  · exact h.elim
def fPart : MpF := fun d ds Q => match d, ds with
  | .str a, [.str b] => (b.length == 0) = false ∧ a.length ≤ sizeLine ∧ Q (Fz (.tup [.str (Txt.partition a b).1, .str (Txt.partition a b).2.1, .str (Txt.partition a b).2.2]))
  | _, _ => False
theorem part_ok : MpOk c fPart (fun x xs H Q => ∃ a b, x = .str a ∧ xs = [.str b] ∧ (b.length == 0) = false ∧ a.length ≤ sizeLine ∧ ∀ p, H p = none → Q (.ref p) (upd H p (.tup [.str (Txt.partition a b).1, .str (Txt.partition a b).2.1, .str (Txt.partition a b).2.2]))) := by
  intro σ ρ τ O H v ws d ds Q K0 S hv rd h hQ
  unfold fPart at h
  split at h
  · rename_i a b
    obtain ⟨w, r, rfl, r1, r2⟩ := rd
    unfold Rps at r2; subst r2
    rw [hv.str, r1.top.str]
    exact ⟨a, b, rfl, rfl, h.1, h.2.1, fun p hp => hQ _ _ _ h.2.2 (S.newTup hp (.cons (Rp.ofStr _) (.cons (Rp.ofStr _) (.one (Rp.ofStr _)))))⟩
  · exact h.elim
def fRmp : MpF := fun d ds Q => match d, ds with
  | .str a, [.str b] => a.length ≤ sizeLine ∧ Q (Fz (.str (Txt.removeprefix a b)))
  | _, _ => False
theorem rmp_ok : MpOk c fRmp (fun x xs H Q => ∃ a b, x = .str a ∧ xs = [.str b] ∧ a.length ≤ sizeLine ∧ Q (.str (Txt.removeprefix a b)) H) := by
  intro σ ρ τ O H v ws d ds Q K0 S hv rd h hQ
  unfold fRmp at h
  split at h
  · rename_i a b
    obtain ⟨w, r, rfl, r1, r2⟩ := rd
    unfold Rps at r2; subst r2
    rw [hv.str, r1.top.str]
    exact ⟨a, b, rfl, rfl, h.1, hQ _ _ _ h.2 (Sim.pushFz ⟨O, S⟩ fun A => Rp.ofStr _)⟩
  · exact h.elim
def fJoin : MpF := fun d ds Q => match d, ds with
  | .str a, [.lst l] => oD (strs? l) fun ys => (ys.map (·.length)).sum + ys.length * a.length ≤ 16777216 ∧ Q (Fz (.str (Txt.join a ys)))
  | _, _ => False
theorem join_ok (hK : X.K = c.K) : MpOk c fJoin (fun x xs H Q => ∃ a p, ∃ ys : List Str, x = .str a ∧ xs = [.ref p] ∧ (SqL X.K H p (ys.map V.str) ∨ SqT X.K H p (ys.map V.str)) ∧ (ys.map (·.length)).sum + ys.length * a.length ≤ 16777216 ∧ Q (.str (Txt.join a ys)) H) := by
  intro σ ρ τ O H v ws d ds Q K0 S hv rd h hQ
  unfold fJoin at h
  split at h
  · rename_i a l
    obtain ⟨w, r, rfl, r1, r2⟩ := rd
    unfold Rps at r2; subst r2
    obtain ⟨ys, e1, h1, h2⟩ := h.of
    obtain ⟨p, vs, rfl, hp, rl⟩ := r1.top.lst
    have ev := strs_of rl e1
    subst ev
    rw [hv.str]
    exact ⟨a, p, ys, rfl, rfl, .inl (SqL.of hp), h1, hQ _ _ _ h2 (Sim.pushFz ⟨O, S⟩ fun A => Rp.ofStr _)⟩
  · exact h.elim
/-! ### f-strings -/
def fmtK (ρ : En) (R : R → En → Prop) : D → Prop
  | .str y => y.length ≤ sizeLine ∧ R (.va (Fz (.str y))) ρ
  | .int i => i.natAbs.log2 < 1920 ∧ R (.va (Fz (.str (toString i)))) ρ
  | _ => False
def tFmtD (Te : TEp) : TEp := fun ρ R E => Te ρ (fun r ρ1 => oD (vw ρ1 r) (fmtK ρ1 R)) E
theorem p_fmt (he : PEp c ek fl X e Te) : PEp c ek fl X (.FormattedValue e (-1) none pos) (tFmtD Te) := by
  refine ⟨fun pins s σ H Q I h => ?_⟩
  obtain ⟨ρ, τ, R0, E0, S, hT, hQ, hE⟩ := h
  refine (pe_fmt he).run pins s σ H Q I ⟨ρ, τ, _, E0, S, hT, fun r ρ1 v H1 h1 S1 => ?_, hE⟩
  obtain ⟨d, e1, h1⟩ := h1.of
  obtain ⟨O, S1⟩ := S1
  have hv := S1.vw e1
  unfold fmtK at h1
  split at h1
  · exact .inl ⟨_, hv.str, h1.1, hQ _ _ _ _ h1.2 (Sim.pushFz ⟨O, S1.pop⟩ fun A => Rp.ofStr _)⟩
  · exact .inr ⟨_, hv.int, h1.1, hQ _ _ _ _ h1.2 (Sim.pushFz ⟨O, S1.pop⟩ fun A => Rp.ofStr _)⟩
  · exact h1.elim
inductive PJp (c : Cc) (ek : EK) (fl : Bool) (X : Cx) : List Expr → List TEp → Prop where
  | nil : PJp c ek fl X [] []
  | cons {e : Expr} {t : TEp} {es : List Expr} {ts : List TEp} (h : PEp c ek fl X e t) (r : PJp c ek fl X es ts) : PJp c ek fl X (e :: es) (t :: ts)
theorem PJp.pj {ts : List TEp} (h : PJp c ek fl X es ts) : PJ X es (ts.map (rd c ek fl)) := by
  induction h with
  | nil => exact .nil
  | cons h r ih => exact .cons h ih
def strK (acc : Str) (k : Str → Prop) : D → Prop
  | .str y => (acc ++ y).length ≤ sizeLine ∧ k (acc ++ y)
  | _ => False
def tJP : List TEp → Str → En → (Str → En → Prop) → (Exn → En → Prop) → Prop
  | [], acc, ρ, R, _ => R acc ρ
  | t :: ts, acc, ρ, R, E => t ρ (fun r ρ1 => oD (vw ρ1 r) (strK acc fun y => tJP ts y ρ1 R E)) E
def tJoined (ts : List TEp) : TEp := fun ρ R E => tJP ts Str.empty ρ (fun s ρ1 => R (.va (Fz (.str s))) ρ1) E
theorem tJP_rd {Q : VK} {R0 : R → En → Prop} {E0 : Exn → En → Prop} (hQ : ∀ r ρ' v H', R0 r ρ' → Sim c ρ' ((v, r) :: τ) σ H' → Q v H') (hE : ek E0 σ ∧ (fl = true → NoAlf τ)) : ∀ (ts : List TEp) (acc : Str) (ρ : En) (H : Hp), Sim c ρ τ σ H → tJP ts acc ρ (fun s ρ1 => R0 (.va (Fz (.str s))) ρ1) E0 →
    tJs (ts.map (rd c ek fl)) acc σ H (fun out H1 => Q (.str out) H1)
  | [], acc, ρ, H, S, h => hQ _ _ _ _ h (S.pushFz fun A => Rp.ofStr _)
  | t :: ts, acc, ρ, H, S, h => by
    rw [List.map_cons]
    refine ⟨ρ, τ, _, E0, S, h, fun r ρ1 v H1 h1 S1 => ?_, hE⟩
    obtain ⟨d, e1, h1⟩ := h1.of
    obtain ⟨O, S1⟩ := S1
    unfold strK at h1
    split at h1
    · exact ⟨_, (S1.vw e1).str, h1.1, tJP_rd hQ hE ts _ ρ1 H1 ⟨O, S1.pop⟩ h1.2⟩
    · exact h1.elim
theorem p_joined {v1 v2 : Expr} {ts : List TEp} (h : PJp c ek fl X (v1 :: v2 :: rest) ts) : PEp c ek fl X (.JoinedStr (v1 :: v2 :: rest) pos) (tJoined ts) := by
  refine ⟨fun pins s σ H Q I hh => ?_⟩
  obtain ⟨ρ, τ, R0, E0, S, hT, hQ, hE⟩ := hh
  exact (pe_joined h.pj).run pins s σ H Q I (tJP_rd hQ hE ts Str.empty ρ H S hT)
theorem p_joined1 (he : PEp c ek fl X e Te) : PEp c ek fl X (.JoinedStr [e] pos) Te := ⟨fun pins s σ H Q I h => (pe_joined1 he).run pins s σ H Q I h⟩
/-! ### int of a text, str of an int -/
def fIntS (d : D) (R : D → Prop) : Prop := match d with
  | .str a => ∃ n, PySem.intText? a = some n ∧ a.length ≤ 640 ∧ R (.int n)
  | _ => False
theorem intS_ok : CbOk c (fun xs H Q => ∃ a n, xs = [.str a] ∧ PySem.intText? a = some n ∧ a.length ≤ 640 ∧ Q (.int n) H) (cD1 fIntS) := cD1_ok fun A H v d Q R0 hv hf hQ => by
  unfold fIntS at hf
  split at hf
  · obtain ⟨n, h1, h2, h3⟩ := hf
    exact ⟨_, n, by rw [hv.str], h1, h2, hQ _ _ h3 (Pl.int _)⟩
  · exact hf.elim
def fStrI (d : D) (R : D → Prop) : Prop := match d with
  | .int i => i.natAbs.log2 < 1920 ∧ R (.str (toString i))
  | _ => False
theorem strI_ok : CbOk c (fun xs H Q => ∃ i, xs = [.int i] ∧ i.natAbs.log2 < 1920 ∧ Q (.str (toString i)) H) (cD1 fStrI) := cD1_ok fun A H v d Q R0 hv hf hQ => by
  unfold fStrI at hf
  split at hf
  · exact ⟨_, by rw [hv.int], hf.1, hQ _ _ hf.2 (Pl.str _)⟩
  · exact hf.elim
/-! ### a text is walked -/
def chs (z : Str) : List D := z.cps.toList.map fun k => .str ⟨#[k]⟩
def iStrS (Te : TEp) : TIp' := fun ρ R E => Te ρ (fun r ρ' => match vw ρ' r with
  | some (.str z) => R (chs z) ρ'
  | _ => False) E
theorem i_strS {tg : Expr} (he : PEp c ek fl X e Te) : PIp' c ek fl X tg e (iStrS Te) := by
  refine ⟨fun pins s σ H Q I h => ?_⟩
  obtain ⟨ρ, τ, R0, E0, S, hT, q, q5⟩ := h
  refine (pi_str he).run pins s σ H Q I ⟨ρ, τ, _, _, S, hT, fun r ρ' v H' h1 S1 => ?_, q5⟩
  obtain ⟨O, S1⟩ := S1
  split at h1
  · rename_i z ez
    refine ⟨z, (S1.vw ez).str, q (chs z) ρ' _ _ [] h1 ?_ (fun v r m => by cases m) ⟨O, S1.pop⟩⟩
    intro σ H ρ τ0 τ i S
    obtain ⟨O, S⟩ := S
    have hl : (chs z).length = z.cps.size := by unfold chs; rw [List.length_map, Array.length_toList]
    refine ⟨fun d hd => ?_, fun hi => by rw [hl] at hi; exact hi⟩
    unfold chs at hd
    rw [List.getElem?_map] at hd
    obtain ⟨k, k1, k2⟩ := Option.map_eq_some_iff.mp hd
    subst k2
    rw [Array.getElem?_toList] at k1
    refine ⟨(Array.getElem?_eq_some_iff.mp k1).1, fun x H' y => ?_⟩
    obtain ⟨e1, k', e2, e3⟩ := y
    subst e1 e3
    rw [k1] at e2; cases e2
    exact ⟨O, S, Rp.ofStr _⟩
  · exact h1.elim
/-! ### starred arguments, starred parts of a tuple -/
def starK (ρ : En) (K : List D → En → Prop) (r : R) : Prop := match fzC ρ r with
  | some (.lst l, ρ1) => K l ρ1
  | some (.tup l, ρ1) => K l ρ1
  | _ => False
def tAStar (Te : TEp) (TA : TAp) : TAp := fun ρ R E => Te ρ (fun r ρ1 => starK ρ1 (fun l ρ2 => TA ρ2 (fun rs ρ3 => R (l.map (fun d => Pm.R.va (Fz d)) ++ rs) ρ3) E) r) E
theorem tmps_app : ∀ {vs : List V} {rs : List R} {vs' : List V} {rs' : List R} {τ : List (V × R)}, vs.length = rs.length → tmps τ (vs ++ vs') (rs ++ rs') = tmps (tmps τ vs rs) vs' rs'
  | [], [], _, _, _, _ => rfl
  | v :: vs, r :: rs, vs', rs', τ, h => by
    show tmps ((v, r) :: τ) (vs ++ vs') (rs ++ rs') = _
    rw [tmps_app (by simpa using h)]; rfl
  | [], _ :: _, _, _, _, h => by cases h
  | _ :: _, [], _, _, _, h => by cases h
theorem Sim0.pushs : ∀ {l : List D} {vs : List V} {τ : List (V × R)}, Sim0 c H O ρ τ σ → Rps c.K H (c.av O) l vs → Sim0 c H O ρ (tmps τ vs (l.map fun d => R.va (Fz d))) σ
  | [], vs, τ, S, h => by unfold Rps at h; subst h; exact S
  | d :: l, vs, τ, S, h => by
    obtain ⟨v, r, rfl, h1, h2⟩ := h
    show Sim0 c H O ρ (tmps ((v, .va (Fz d)) :: τ) r (l.map fun d => R.va (Fz d))) σ
    exact Sim0.pushs (S.push (ct := Fz d) h1) h2
theorem a_star {p : Pos} (he : PEp c ek false X e Te) (hr : PAp c ek fl X es TA) (hs : starEach (.Starred e p :: es) X.env = (true, eval e X.env) :: starEach es X.env := by rfl) (hK : X.K = c.K := by rfl) : PAp c ek fl X (.Starred e p :: es) (tAStar Te TA) := by
  refine ⟨fun p pins s σ H Q I h => ?_⟩
  obtain ⟨ρ, τ, R0, E0, S, hT, hQ, hE⟩ := h
  refine (StX.pa_star he hr hs).run p pins s σ H Q I ⟨ρ, τ, _, E0, S, hT, fun r ρ1 v H1 h1 S1 => ?_, hE.1, fun z => by cases z⟩
  obtain ⟨O, S1⟩ := S1
  have go : ∀ (l : List D) (ρ2 : En) (a : Addr) (vs : List V) (O2 : Ow), vs.length = l.length → (SqT X.K H1 a vs ∨ SqL X.K H1 a vs) → v = .ref a → Sim0 c H1 O2 ρ2 τ σ → Rps c.K H1 (c.av O2) l vs → TA ρ2 (fun rs ρ3 => R0 (l.map (fun d => R.va (Fz d)) ++ rs) ρ3) E0 →
      ∃ p xs, v = V.ref p ∧ (SqT X.K H1 p xs ∨ SqL X.K H1 p xs) ∧ rdA c ek fl TA σ H1 fun ys H2 => Q (xs ++ ys) H2 := fun l ρ2 a vs O2 hl hq e S2 rp h2 => by
    refine ⟨a, vs, e, hq, ρ2, tmps τ vs (l.map fun d => R.va (Fz d)), _, E0, ⟨O2, S2.pushs rp⟩, h2, fun rs ρ3 ys H2 h3 hl3 S3 => ?_, hE.1, fun z => ?_⟩
    · refine hQ _ _ _ _ h3 (by rw [List.length_append, List.length_append, List.length_map, hl, hl3]) ?_
      rw [tmps_app (by rw [List.length_map, hl])]
      exact S3
    · have n := hE.2 z
      clear h2 S2 rp hq
      have : ∀ {l : List D} {vs : List V} {τ : List (V × R)}, NoAlf τ → NoAlf (tmps τ vs (l.map fun d => R.va (Fz d))) := by
        intro l
        induction l with
        | nil => intro vs τ n; cases vs <;> exact n
        | cons d l ih =>
          intro vs τ n
          cases vs with
          | nil => exact n
          | cons u vs =>
            refine ih fun w i f m => ?_
            rcases List.mem_cons.mp m with e | m
            · cases e
            · exact n w i f m
      exact this n
  unfold starK at h1
  split at h1
  · rename_i l ρ2 e1
    obtain ⟨O2, S2, rp, _⟩ := fzC_ok S1 e1
    obtain ⟨a, vs, ev, hq, rr⟩ := rp.top.lst
    exact go l ρ2 a vs O2 rr.length (.inr (SqL.of hq)) ev S2 rr h1
  · rename_i l ρ2 e1
    obtain ⟨O2, S2, rp, _⟩ := fzC_ok S1 e1
    obtain ⟨a, vs, ev, hq, rr⟩ := rp.top.tup
    exact go l ρ2 a vs O2 rr.length (.inl (by rw [hK]; exact hq)) ev S2 rr h1
  · exact h1.elim
/-- f(e, .., *l): a call of a def with a starred argument behind another -/
theorem p_callS {x : Str} {n k k' : Nat} {φ : Fn} {p : Pos} (ms : List Bool) (F : DefOk X.prog X.w X.K c.cls X.mg X.base x n [] k φ) (hr : Room k' X.A) (hk : k ≤ k') (ha : PAp c ek0 fl X (e :: es) TA) (hfl : ms.all (fun b => !b) = true := by rfl) (hn : ms.length = n := by rfl) (hg : Gl X x := by rfl) (hK : X.K = c.K := by rfl)
    (hdb : (x == ("__debug__" : Str)) = false := by decide) (he : starEach (e :: es) X.env = (false, eval e X.env) :: starEach es X.env := by rfl) (hpl : (backTo pos (starEach es X.env)).any (·.1) = true := by rfl) :
    PEp c ek0 fl X (.Call (.Name x p) (e :: es) [] pos) (tCall φ ms [] TA) := by
  obtain ⟨f, fd, ps, ds, dvs, hm, hkp, hb, hd, hdd, F⟩ := F.ex
  rw [hK] at F
  refine ⟨fun pins s σ H Q I h => ?_⟩
  obtain ⟨ρ, τ, R0, E0, S, hT, hQ, hE⟩ := h
  have F' : FnOk X.prog X.w X.K X.mg X.base CX0 k f fd ps (spOf c.K c.cls n φ) := by rw [hK]; exact F
  refine (StX.pe_callS2 (F'.raw hb hd) (hr.mono hk) hkp hg hm pass0 ha hdb he hpl).run pins s σ H Q I ⟨ρ, τ, _, E0, S, hT, fun rs ρ1 vs H1 h1 hl S1 => ?_, hE⟩
  exact call_ok (dcs := []) (.inl hfl) (by rw [← hK]; exact hdd) (by simpa using hn) hl S1 h1 (fun x ρ => hE.1 x ρ) hQ
/-- f(*l) -/
theorem p_callS1 {x : Str} {n k k' : Nat} {φ : Fn} {p p2 : Pos} (ms : List Bool) (F : DefOk X.prog X.w X.K c.cls X.mg X.base x n [] k φ) (hr : Room k' X.A) (hk : k ≤ k') (he : PEp c ek0 fl X e Te) (hfl : ms.all (fun b => !b) = true := by rfl) (hn : ms.length = n := by rfl) (hg : Gl X x := by rfl) (hK : X.K = c.K := by rfl)
    (hdb : (x == ("__debug__" : Str)) = false := by decide) (hst : starEach [.Starred e p2] X.env = [(true, eval e X.env)] := by rfl) :
    PEp c ek0 fl X (.Call (.Name x p) [.Starred e p2] [] pos) (tCall φ ms [] (tAStar Te tANil)) := by
  obtain ⟨f, fd, ps, ds, dvs, hm, hkp, hb, hd, hdd, F⟩ := F.ex
  rw [hK] at F
  refine ⟨fun pins s σ H Q I h => ?_⟩
  obtain ⟨ρ, τ, R0, E0, S, hT, hQ, hE⟩ := h
  have F' : FnOk X.prog X.w X.K X.mg X.base CX0 k f fd ps (spOf c.K c.cls n φ) := by rw [hK]; exact F
  refine (StX.pe_callS1 (F'.raw hb hd) (hr.mono hk) hkp hg hm pass0 he hdb hst).run pins s σ H Q I ⟨ρ, τ, _, E0, S, hT, fun r ρ1 v H1 h1 S1 => ?_, hE⟩
  obtain ⟨O, S1⟩ := S1
  have go : ∀ (l : List D) (ρ2 : En) (vs : List V) (O2 : Ow), Sim0 c H1 O2 ρ2 τ σ → Rps c.K H1 (c.av O2) l vs → callK φ ms [] (l.map (fun d => Pm.R.va (Fz d)) ++ []) ρ2 R0 E0 → spOf c.K c.cls n φ (vs ++ dvs) H1 Q L2.E0 := fun l ρ2 vs O2 S2 rp h2 => by
    rw [List.append_nil] at h2
    exact call_ok (dcs := []) (.inl hfl) (by rw [← hK]; exact hdd) (by simpa using hn) (by rw [List.length_map]; exact rp.length) ⟨O2, S2.pushs rp⟩ h2 (fun x ρ => hE.1 x ρ) hQ
  unfold starK at h1
  split at h1
  · rename_i l ρ2 e1
    obtain ⟨O2, S2, rp, _⟩ := fzC_ok S1 e1
    obtain ⟨a, vs, ev, hq, rr⟩ := rp.top.lst
    exact ⟨a, vs, ev, .inr (SqL.of hq), go l ρ2 vs O2 S2 rr h1⟩
  · rename_i l ρ2 e1
    obtain ⟨O2, S2, rp, _⟩ := fzC_ok S1 e1
    obtain ⟨a, vs, ev, hq, rr⟩ := rp.top.tup
    exact ⟨a, vs, ev, .inl (by rw [hK]; exact hq), go l ρ2 vs O2 S2 rr h1⟩
  · exact h1.elim
/-! ### chains of three -/
theorem intE {pins : List (Addr × Obj)} {s : Shared} {K : Int → En → Prop} {E0 : Exn → En → Prop} (ha : PEp c ek fl X a Ta) (I : Inv X pins σ H s) (S : Sim c ρ τ σ H) (hT : Ta ρ (fun ra ρ1 => intK (vw ρ1 ra) fun i => K i ρ1) E0) (hE : ek E0 σ ∧ (fl = true → NoAlf τ)) :
    wpAny (model X.prog X.w) X.A (eval a X.env) (fun v s1 => ∃ i H1 ρ1, RelV (.int i) v ∧ Inv X pins σ H1 s1 ∧ Sim c ρ1 τ σ H1 ∧ K i ρ1) X.xe s := by
  refine thn (ha.run pins s σ H (fun v H1 => ∃ i ρ1, v = .int i ∧ Sim c ρ1 τ σ H1 ∧ K i ρ1) I ⟨ρ, τ, _, E0, S, hT, fun r ρ1 v H1 h1 S1 => ?_, hE⟩) fun v s1 ⟨x, H1, I1, r1, i, ρ1, e1, S1, q⟩ => ?_
  · obtain ⟨i, e1, h1⟩ := h1.of
    obtain ⟨O, S1⟩ := S1
    exact ⟨i, ρ1, (S1.vw e1).int, ⟨O, S1.pop⟩, h1⟩
  · subst e1; exact ⟨i, H1, ρ1, r1, I1, S1, q⟩
def tChainG3 (f g h : Int → Int → Bool) (Ta Tb Tc Td : TEp) (ρ : En) (K : Bool → En → Prop) (E : Exn → En → Prop) : Prop := Ta ρ (fun ra ρ1 => intK (vw ρ1 ra) fun i => Tb ρ1 (fun rb ρ2 => intK (vw ρ2 rb) fun j => if f i j = true then Tc ρ2 (fun rc ρ3 => intK (vw ρ3 rc) fun k => if g j k = true then Td ρ3 (fun rd ρ4 => intK (vw ρ4 rd) fun l => K (h k l) ρ4) E else K false ρ3) E else K false ρ2) E) E
def tChain3 (op op' op2 : CmpOp) (Ta Tb Tc Td : TEp) : TEp := fun ρ R E => match cmpI op, cmpI op', cmpI op2 with
  | some f, some g, some h => tChainG3 f g h Ta Tb Tc Td ρ (fun b ρ' => R (.va (Fz (.bl b))) ρ') E
  | _, _, _ => False
theorem p_chain3 {b c0 d0 : Expr} {Tc Td : TEp} {op op' op2 : CmpOp} (ha : PEp c ek fl X a Ta) (hb : PEp c ek fl X b Tb) (hc : PEp c ek fl X c0 Tc) (hd : PEp c ek fl X d0 Td) (hm : lastMarks [op, op', op2] [b, c0, d0] = false := by with_unfolding_all rfl) : PEp c ek fl X (.Compare a [op, op', op2] [b, c0, d0] pos) (tChain3 op op' op2 Ta Tb Tc Td) := by
  refine ⟨fun pins s σ H Q I hh => ?_⟩
  obtain ⟨ρ, τ, R0, E0, S, hT, hQ, hE⟩ := hh
  unfold tChain3 at hT
  split at hT
  · rename_i f g h e1 e2 e3
    have fin : ∀ (k : Bool) ρ' (s' : Shared) H', Inv X pins σ H' s' → R0 (.va (Fz (.bl k))) ρ' → Sim c ρ' τ σ H' → EP X pins σ Q (.bool k) s' := fun k ρ' s' H' I' h1 S' => ⟨.bl k, H', I', rfl, hQ _ _ _ _ h1 (S'.pushFz fun A => Rp.ofBl k)⟩
    refine Compare_chain (thn (intE ha I S hT hE) fun v s1 ⟨i, H1, ρ1, r1, I1, S1, q1⟩ => chain_link (thn (intE hb I1 S1 q1 hE) fun u s2 ⟨j, H2, ρ2, r2, I2, S2, q2⟩ =>
      thn (cmpI_ok e1 pins s2 σ H2 _ _ v u (fun z H' => z = .bl (f i j) ∧ H' = H2) I2 r1 r2 ⟨i, j, rfl, rfl, rfl, rfl⟩) fun d s3 ⟨z, H3, I3, r3, ez, eH⟩ => ?_)) hm
    subst ez eH
    cases r3
    refine wpAny_truthy_bool ?_
    by_cases hf : f i j = true
    · rw [if_pos hf] at q2
      rw [hf]
      refine ite_tt (chain_link (thn (intE hc I3 S2 q2 hE) fun u3 s4 ⟨k, H4, ρ4, r4, I4, S4, q4⟩ =>
        thn (cmpI_ok e2 pins s4 σ H4 _ _ u u3 (fun z H' => z = .bl (g j k) ∧ H' = H4) I4 r2 r4 ⟨j, k, rfl, rfl, rfl, rfl⟩) fun d s5 ⟨z, H5, I5, r5, ez, eH⟩ => ?_))
      subst ez eH
      cases r5
      refine wpAny_truthy_bool ?_
      by_cases hg : g j k = true
      · rw [if_pos hg] at q4
        rw [hg]
        refine ite_tt (chain_last (thn (intE hd I5 S4 q4 hE) fun u4 s6 ⟨l, H6, ρ6, r6, I6, S6, q6⟩ =>
          thn (cmpI_ok e3 pins s6 σ H6 _ _ u3 u4 (fun z H' => z = .bl (h k l) ∧ H' = H6) I6 r4 r6 ⟨k, l, rfl, rfl, rfl, rfl⟩) fun d s7 ⟨z, H7, I7, r7, ez, eH⟩ => ?_))
        subst ez eH
        cases r7
        exact fin _ _ _ _ I7 q6 S6
      · rw [if_neg hg] at q4
        rw [Bool.not_eq_true] at hg
        rw [hg]
        exact ite_ff (fin _ _ _ _ I5 q4 S4)
    · rw [if_neg hf] at q2
      rw [Bool.not_eq_true] at hf
      rw [hf]
      exact ite_ff (fin _ _ _ _ I3 q2 S2)
  · exact hT.elim
/-! ### x in a tuple of data -/
theorem op_inTD (hu : X.A.units + 65 < cLine) {d : PyData} {ds : List PyData} (neg : Bool) : ∀ (pins : List (Addr × Obj)) (s : Shared) (σ : L2.St) (H : Hp) (x y : V) (v u : Value) (Q : VK), Inv X pins σ H s → RelV x v → RelV y u → Dp X.K H x d → Dp X.K H y (.tuple ds) → SeqAt.shaped d = true → SeqAt.shaped (.tuple ds) = true → Q (.bl (neg != ds.any fun z => PyData.eqv z d)) H →
    wpAny (model X.prog X.w) X.A (compareOp (if neg then .NotIn else .In) v u) (EP X pins σ Q) X.xe s := by
  intro pins s σ H x y v u Q I rx ry hd he sd se q
  obtain ⟨as, r1⟩ := Dp.reads I d x v hd rx
  obtain ⟨bs, r2⟩ := Dp.reads I (.tuple ds) y u he ry
  cases neg
  · exact SeqAt.in_tuple_reads r2 r1 (SeqAt.canLay_of_shaped se) (SeqAt.canLay_of_shaped sd) (room_in_shaped sd hu) ⟨.bl _, H, I, rfl, by simpa using q⟩
  · exact SeqAt.notIn_tuple_reads r2 r1 (SeqAt.canLay_of_shaped se) (SeqAt.canLay_of_shaped sd) (room_in_shaped sd hu) ⟨.bl _, H, I, rfl, by simpa using q⟩
def opInT (neg : Bool) (x y : D) (Q : Bool → Prop) : Prop := match y with
  | .tup l => shp x ∧ shp (.tup l) ∧ Q (neg != l.any fun z => eqD z x)
  | _ => False
theorem opInT_mono {neg : Bool} {x y : D} {Q Q' : Bool → Prop} (h : ∀ b, Q b → Q' b) (q : opInT neg x y Q) : opInT neg x y Q' := by
  unfold opInT at q ⊢
  split at q
  · exact ⟨q.1, q.2.1, h _ q.2.2⟩
  · exact q.elim
theorem opInT_ok (hK : X.K = c.K) (hu : X.A.units + 65 < cLine) (neg : Bool) : OpOk c X (compareOp (if neg then .NotIn else .In)) (fun x y Q => opInT neg x y fun b => Q (Fz (.bl b))) := by
  intro pins s σ H Q ρ τ x y v u ra rb dx dy R0 I rx ry S ex ey h q
  obtain ⟨O, S0⟩ := S
  obtain ⟨hx, hy⟩ := S0.vw2 ex ey
  have h : opInT neg dx dy (fun b => R0 (Fz (.bl b))) := h
  unfold opInT at h
  split at h
  · rename_i l _
    have dx' : Dp X.K H x dx.py := by rw [hK]; exact hx.dp
    have dy' : Dp X.K H y (.tuple (D.pys l)) := by rw [hK]; have := hy.dp; unfold D.py at this; exact this
    have h2 := h.2.1
    unfold shp D.py at h2
    refine op_inTD hu neg pins s σ H x y v u Q I rx ry dx' dy' h.1 h2 ?_
    rw [any_pys]
    exact q _ _ _ h.2.2 (Sim.pushFz ⟨O, S0.pop.pop⟩ fun A => Rp.ofBl _)
  · exact h.elim
def tInT (neg : Bool) (Ta Tb : TEp) : TEp := tBin (fun x y Q => opInT neg x y fun b => Q (Fz (.bl b))) Ta Tb
def tInTT (neg : Bool) (Ta Tb : TEp) : TTp := fun ρ R E => Ta ρ (fun ra ρ1 => nA ra <| Tb ρ1 (fun rb ρ2 => wD (vw ρ2 ra) fun x => wD (vw ρ2 rb) fun y => opInT neg x y fun b => R b ρ2) E) E
theorem p_inT (hu : X.A.units + 65 < cLine) (ha : PEp c ek fl X a Ta) (hb : PEp c ek fl X b Tb) (hm : behindInMarks .In b = false := by rfl) (hK : X.K = c.K := by rfl) : PEp c ek fl X (.Compare a [.In] [b] pos) (tInT false Ta Tb) :=
  ⟨fun pins s σ H Q I h => wpAny_Compare1 (bin_run (opInT_ok hK hu false) ha hb I h) hm⟩
theorem t_inT (hu : X.A.units + 65 < cLine) (ha : PEp c ek fl X a Ta) (hb : PEp c ek fl X b Tb) (hm : behindInMarks .In b = false := by rfl) (hK : X.K = c.K := by rfl) : PTp c ek fl X (.Compare a [.In] [b] pos) (tInTT false Ta Tb) := by
  refine ⟨fun pins s σ H Q I h => ?_⟩
  obtain ⟨ρ, τ, R0, E0, S, hT, hQ, hE⟩ := h
  refine wpAny_isTrue_Compare1 (bin ha hb I (R := fun x y H2 => ∃ ρ2 ra rb, Sim c ρ2 ((y, rb) :: (x, ra) :: τ) σ H2 ∧ wD (vw ρ2 ra) fun dx => wD (vw ρ2 rb) fun dy => opInT false dx dy (fun b => R0 b ρ2)) ?_ fun v u s2 x y H2 I2 rx ry q => ?_) hm
  · exact ⟨ρ, τ, _, E0, S, hT, fun ra ρ1 x H1 h1 S1 => let ⟨h1, n⟩ := h1.of; ⟨ρ1, _, _, E0, S1, h1, fun rb ρ2 y H2 h2 S2 => ⟨ρ2, ra, rb, S2, h2⟩, hE.1, fun z => n (hE.2 z)⟩, hE⟩
  · obtain ⟨ρ2, ra, rb, S2, q⟩ := q
    obtain ⟨dx, ex, q⟩ := q.of
    obtain ⟨dy, ey, q⟩ := q.of
    refine thn (opInT_ok hK hu false pins s2 σ H2 (fun v H' => ∃ k, v = .bl k ∧ Q k H') ρ2 τ x y v u ra rb dx dy (fun ct => ∃ k, ct = Fz (.bl k) ∧ R0 k ρ2) I2 rx ry S2 ex ey (opInT_mono (fun b h => ⟨b, rfl, h⟩) q) fun ct w H' h1 S' => ?_) fun c s3 ⟨x, H1, I1, r1, q1⟩ => ?_
    · obtain ⟨k, rfl, h1⟩ := h1
      obtain ⟨O, S1⟩ := S'
      have h3 : Rp c.K H' (c.av O) (.bl k) w := S1.tm.1
      exact ⟨k, h3.top.bl, hQ k _ _ h1 ⟨O, S1.pop⟩⟩
    · obtain ⟨d, rfl, q⟩ := q1
      cases r1
      exact wpAny_truthy_bool ⟨H1, I1, q⟩
/-! ### enumerate(.., start=k) -/
theorem callWith_typeKw {M : Model} {A : Around} {E : Value → Shared → Prop} {s : Shared} {env : Env} {pos : Pos} {Ty : String} {e : Expr} {kws : List Keyword} {Q : Value → Shared → Prop}
    (h : wpAny M A (spliced (backTo pos (starEach [e] env))) (fun vs s₁ => wpAny M A (evalAll ((backToKw pos (keywordEach kws env)).map (·.2)))
      (fun kvs s₂ => wpAny M A (call (.type Ty) vs (((backToKw pos (keywordEach kws env)).filterMap (·.1)).zip kvs)) Q E s₂) E s₁) E s)
    (he : backTo pos (starEach [e] env) = (false, eval e env) :: backTo pos (starEach [] env) := by rfl)
    (hplain : (backTo pos (starEach [e] env)).any (·.1) = false := by rfl)
    (hall : (backToKw pos (keywordEach kws env)).all (·.1.isSome) = true := by rfl)
    (hkw : (backToKw pos (keywordEach kws env)).any (·.1.isNone) = false := by rfl) :
    wpAny M A (callWith pos (.type Ty) [] (backTo pos (starEach [e] env)) (backToKw pos (keywordEach kws env))) Q E s := by
  have h2 : wpAny M A (evalArgs (.type Ty) true (backTo pos (starEach [e] env)) (backToKw pos (keywordEach kws env))) (fun a s₁ => wpAny M A (call (.type Ty) ([] ++ a.pos) a.kw) Q E s₁) E s := by
    rw [he] at h ⊢
    exact evalArgs_kwB hall h
  unfold callWith
  refine wpAny_bind (wpAny_holding (wpAny_mono h2 (fun a s₁ h₁ => wpAny_bind (wpAny_standAt ?_)) fun _ _ x => x))
  simp only [hplain, hkw, Bool.or_false]
  refine wpAny_bind (wpAny_pure ?_)
  exact wpAny_bind (wpAny_mono h₁ (fun r s₂ hr => wpAny_bind (wpAny_holding (wpAny_point (wpAny_pure hr)))) fun _ _ x => x)
theorem enLk_pi {tgs : List Expr} {kk : Nat} {tp : Pos} {pins : List (Addr × Obj)} {s : Shared} {p : Addr} {xs : List V} {RR : It → Hp → Prop} {k : Int} {t : Tok} (h0 : -(2 ^ 63) ≤ k) (h1 : k < 2 ^ 63) (J : Inv X pins σ H s) (h : SqL X.K H p xs) (q : RR (ItE (fun H us => SqL X.K H p us) k) H) : wpAny (model X.prog X.w) X.A (call (.type "enumerate") [.ref p] [(Str.ofString "start", .int k t)]) (fun v s2 => wpAny (model X.prog X.w) X.A (pyIter v) (PIE X pins σ (.Tuple tgs kk tp) RR) X.xe s2) X.xe s := by
  obtain ⟨us, _, pl, _⟩ := J.list h
  have hl := pl.isList
  refine enum_begins_start (begins_list p us.toArray) hl h0 h1 fun h' he hit _ hk => wpAny_pyIter_enum he ?_
  have lp : p < s.heap.objs.size := let ⟨_, z, _⟩ := hl; Heap.lt_size z
  refine ⟨s.heap.objs.size + 1, [s.heap.objs.size + 1, s.heap.objs.size], _, _, H, rfl, J.kept (t' := s.toks) hk, turn_enL p (s.heap.objs.size + 1) s.heap.objs.size, ⟨⟨.none, by simpa using he⟩, ⟨_, hit, rfl, rfl⟩, Nat.succ_ne_self _, Nat.ne_of_lt lp, Nat.ne_of_gt (Nat.lt_succ_of_lt lp)⟩, fun b hb => ?_, q⟩
  have hle : s.heap.objs.size ≤ b := by
    rcases List.mem_cons.mp hb with rfl | hb
    · omega
    · rw [List.mem_singleton.mp hb]; exact Nat.le_refl _
  exact J.fpOk hle (J.hok.fresh hle)
def enSK (k : Int) (K : List D → En → Prop) (ρ : En) (r : R) : Prop := match fzC ρ r with
  | some (.lst l, ρ1) => K (enD k l) ρ1
  | _ => False
def enS1 (k : Int) (K : List D → En → Prop) (ρ : En) : List R → Prop
  | [r] => enSK k K ρ r
  | _ => False
def iEnS (k : Int) (Te : TEp) : TIp' := fun ρ R E => Te ρ (fun r ρ1 => enSK k R ρ1 r) E
theorem i_enS {tgs : List Expr} {kk j : Nat} {tp p kp cp : Pos} {k : Int} (hm : X.mg "enumerate" = none) (ha : PEp c ek fl X e Te) (h0 : -(2 ^ 63) ≤ k := by decide) (h1 : k < 2 ^ 63 := by decide) (hg : Gl X "enumerate" := by rfl)
    (he : backTo pos (starEach [e] X.env) = (false, eval e X.env) :: backTo pos (starEach [] X.env) := by rfl)
    (hplain : (backTo pos (starEach [e] X.env)).any (·.1) = false := by rfl) (hs : starEach [e] X.env = (false, eval e X.env) :: starEach [] X.env := by rfl) : PIp' c ek fl X (.Tuple tgs kk tp) (.Call (.Name "enumerate" p) [e] [⟨some "start", .Constant (.int k) j cp, kp⟩] pos) (iEnS k Te) := by
  refine ⟨fun pins s σ H Q I h => ?_⟩
  obtain ⟨ρ, τ, R0, E0, S, hT, q, q5⟩ := h
  refine wpAny_Call_Name_kw (ld_blt I hg hm boot_enumerate (callWith_typeKw ?_ he hplain rfl rfl))
  refine thn ((a_one (fl := fl) ha hs).run pos pins s σ H (fun vs H1 => ∃ v l ρ1, vs = [v] ∧ Sim c ρ1 ((v, .va (Fz (.lst l))) :: τ) σ H1 ∧ R0 (enD k l) ρ1) I ⟨ρ, τ, (fun rs ρ1 => enS1 k R0 ρ1 rs), E0, S, ?_, fun rs ρ' vs H1 h1 hl S1 => ?_, q5⟩) fun us s1 ⟨xs, H1, I1, rvs, x, l, ρ1, ex, S1, h1'⟩ => ?_
  · exact hT
  · have h1 : enS1 k R0 ρ' rs := h1
    unfold enS1 at h1
    split at h1
    · match vs, hl with
      | [v], _ =>
        obtain ⟨O, S1⟩ := S1
        unfold enSK at h1
        split at h1
        · rename_i l ρ1 e1
          obtain ⟨O2, S2, rp, _⟩ := fzC_ok S1 e1
          exact ⟨v, l, ρ1, rfl, ⟨O2, S2.push rp⟩, h1⟩
        · exact h1.elim
    · exact h1.elim
  subst ex
  cases rvs with
  | cons rv rr =>
  cases rr
  refine kws_cons (thn (pe_int.run pins s1 σ H1 (fun v H' => v = .int k ∧ H' = H1) I1 ⟨rfl, rfl⟩) fun kv s2 ⟨y, H2, I2, r2, ey, eH⟩ => kws_nil ?_)
  subst ey eH
  obtain ⟨t, rfl⟩ := r2
  obtain ⟨O, S1⟩ := S1
  have rp : Rp c.K H2 (c.av O) (.lst l) x := S1.tm.1
  obtain ⟨a, vs, rfl, ha, rr⟩ := rp.top.lst
  cases rv
  show wpAny _ _ (call (.type "enumerate") [.ref a] [(Str.ofString "start", .int k t)]) _ _ _
  refine enLk_pi h0 h1 I2 (SqL.of ha) (q (enD k l) ρ1 _ _ [(.ref a, .va (Fz (.lst l)))] h1' (en_itG fun H O rp => ?_) (fun v r m => by rcases List.mem_cons.mp m with e | m; cases e; exact ⟨_, rfl⟩; cases m) ⟨O, S1⟩)
  obtain ⟨a', vs, e, ha, rr⟩ := rp.top.lst
  cases e
  exact ⟨vs, SqL.of ha, rr⟩
end
end Pm

namespace Pm
open PySem PySem.Spec PyProof.Rows L2
section
variable {ρ : En} {Rr : R → En → Prop} {Ee : Exn → En → Prop} {E : Ep} {i j : Nat} {d : D} {l : List D} {r : R} {Te Ta Tb Tc Td : TEp} {TA : TAp} {a b x : Str} {Q : Ct → Prop} {Qd : D → Prop} {Qb : Bool → Prop}
theorem f_split : fSplit (.str a) [.str b] Q = ((b.length == 0) = false ∧ a.length + 2 ≤ sizeLine ∧ Q (Wl ((Txt.split a b).map .str))) := rfl
theorem f_part : fPart (.str a) [.str b] Q = ((b.length == 0) = false ∧ a.length ≤ sizeLine ∧ Q (Fz (.tup [.str (Txt.partition a b).1, .str (Txt.partition a b).2.1, .str (Txt.partition a b).2.2]))) := rfl
theorem f_rmp : fRmp (.str a) [.str b] Q = (a.length ≤ sizeLine ∧ Q (Fz (.str (Txt.removeprefix a b)))) := rfl
theorem f_join : fJoin (.str a) [.lst l] Q = oD (strs? l) fun ys => (ys.map (·.length)).sum + ys.length * a.length ≤ 16777216 ∧ Q (Fz (.str (Txt.join a ys))) := rfl
theorem e_fmt : tFmtD Te ρ Rr Ee = Te ρ (fun r ρ1 => oD (vw ρ1 r) (fmtK ρ1 Rr)) Ee := rfl
theorem fmtK_str : fmtK ρ Rr (.str x) = (x.length ≤ sizeLine ∧ Rr (.va (Fz (.str x))) ρ) := rfl
theorem fmtK_int {k : Int} : fmtK ρ Rr (.int k) = (k.natAbs.log2 < 1920 ∧ Rr (.va (Fz (.str (toString k)))) ρ) := rfl
theorem e_joined {ts : List TEp} : tJoined ts ρ Rr Ee = tJP ts Str.empty ρ (fun s ρ1 => Rr (.va (Fz (.str s))) ρ1) Ee := rfl
theorem tJP_nil {K : Str → En → Prop} : tJP [] a ρ K Ee = K a ρ := rfl
theorem tJP_cons {t : TEp} {ts : List TEp} {K : Str → En → Prop} : tJP (t :: ts) a ρ K Ee = t ρ (fun r ρ1 => oD (vw ρ1 r) (strK a fun y => tJP ts y ρ1 K Ee)) Ee := rfl
theorem strK_str {k : Str → Prop} : strK a k (.str b) = ((a ++ b).length ≤ sizeLine ∧ k (a ++ b)) := rfl
theorem f_intS : fIntS (.str a) Qd = (∃ n, PySem.intText? a = some n ∧ a.length ≤ 640 ∧ Qd (.int n)) := rfl
theorem f_strI {k : Int} : fStrI (.int k) Qd = (k.natAbs.log2 < 1920 ∧ Qd (.str (toString k))) := rfl
def chK (K : List D → En → Prop) (ρ : En) : D → Prop
  | .str z => K (chs z) ρ
  | _ => False
theorem e_iStrS {K : List D → En → Prop} : iStrS Te ρ K Ee = Te ρ (fun r ρ' => oD (vw ρ' r) (chK K ρ')) Ee := by
  unfold iStrS
  congr 1
  funext r ρ'
  cases vw ρ' r with
  | none => rfl
  | some d => cases d <;> rfl
theorem chK_str {K : List D → En → Prop} : chK K ρ (.str a) = K (chs a) ρ := rfl
def starD (K : List D → En → Prop) (ρ : En) : D → Prop
  | .lst l => K l ρ
  | .tup l => K l ρ
  | _ => False
theorem e_starK {K : List D → En → Prop} : starK ρ K r = oD (fzC ρ r) fun p => starD K p.2 p.1 := by
  unfold starK oD
  cases fzC ρ r with
  | none => rfl
  | some p => obtain ⟨d, ρ1⟩ := p; cases d <;> rfl
theorem starD_lst {K : List D → En → Prop} : starD K ρ (.lst l) = K l ρ := rfl
theorem starD_tup {K : List D → En → Prop} : starD K ρ (.tup l) = K l ρ := rfl
theorem e_aStar {K : List R → En → Prop} : tAStar Te TA ρ K Ee = Te ρ (fun r ρ1 => starK ρ1 (fun l ρ2 => TA ρ2 (fun rs ρ3 => K (l.map (fun d => R.va (Fz d)) ++ rs) ρ3) Ee) r) Ee := rfl
def stK (i j : Nat) (E : Ep) (ρ : En) : D → Prop
  | .lst l => l.length ≤ 16384 ∧ oD l[l.length - 1]? fun d => E.nx ((ρ.set i (Wl l.dropLast)).set j (Fz d))
  | _ => False
theorem e_star : sStar i j Te ρ E = Te ρ (fun r ρ' => oD (fzC ρ' r) fun p => stK i j E p.2 p.1) E.ex := by
  unfold sStar
  congr 1
theorem stK_lst : stK i j E ρ (.lst l) = (l.length ≤ 16384 ∧ oD l[l.length - 1]? fun d => E.nx ((ρ.set i (Wl l.dropLast)).set j (Fz d))) := rfl
theorem e_ch3_a : tChain3 .LtE .Lt .LtE Ta Tb Tc Td ρ Rr Ee = tChainG3 (fun i j => decide (i ≤ j)) (fun i j => decide (i < j)) (fun i j => decide (i ≤ j)) Ta Tb Tc Td ρ (fun b ρ' => Rr (.va (Fz (.bl b))) ρ') Ee := rfl
theorem e_chG3 {f g h : Int → Int → Bool} {K : Bool → En → Prop} : tChainG3 f g h Ta Tb Tc Td ρ K Ee = Ta ρ (fun ra ρ1 => intK (vw ρ1 ra) fun i => Tb ρ1 (fun rb ρ2 => intK (vw ρ2 rb) fun j => if f i j = true then Tc ρ2 (fun rc ρ3 => intK (vw ρ3 rc) fun k => if g j k = true then Td ρ3 (fun rd ρ4 => intK (vw ρ4 rd) fun l => K (h k l) ρ4) Ee else K false ρ3) Ee else K false ρ2) Ee) Ee := rfl
theorem e_inT {neg : Bool} : tInT neg Ta Tb = tBin (fun x y Q => opInT neg x y fun b => Q (Fz (.bl b))) Ta Tb := rfl
theorem e_inTT {neg : Bool} {K : Bool → En → Prop} : tInTT neg Ta Tb ρ K Ee = Ta ρ (fun ra ρ1 => nA ra <| Tb ρ1 (fun rb ρ2 => wD (vw ρ2 ra) fun x => wD (vw ρ2 rb) fun y => opInT neg x y fun b => K b ρ2) Ee) Ee := rfl
theorem inT_tup {neg : Bool} : opInT neg d (.tup l) Qb = (shp d ∧ shp (.tup l) ∧ Qb (neg != l.any fun z => eqD z d)) := rfl
theorem c_inCh {k : Nat} : opC .In (.str ⟨#[k]⟩) (.str b) Qb = Qb (decide (k ∈ b.cps.toList)) := by
  show Qb (!(Builtin.Str.occurrences b ⟨#[k]⟩ 0 b.length 1).isEmpty) = _
  rw [PySem.StrLaws.found_one]
theorem c_ninCh {k : Nat} : opC .NotIn (.str ⟨#[k]⟩) (.str b) Qb = Qb (!decide (k ∈ b.cps.toList)) := by
  show Qb (!(!(Builtin.Str.occurrences b ⟨#[k]⟩ 0 b.length 1).isEmpty)) = _
  rw [PySem.StrLaws.found_one]
def enSD (k : Int) (K : List D → En → Prop) (ρ : En) : D → Prop
  | .lst l => K (enD k l) ρ
  | _ => False
theorem e_iEnS {k : Int} {K : List D → En → Prop} : iEnS k Te ρ K Ee = Te ρ (fun r ρ1 => oD (fzC ρ1 r) fun p => enSD k K p.2 p.1) Ee := by
  unfold iEnS
  congr 1
  funext r ρ1
  unfold enSK oD
  cases fzC ρ1 r with
  | none => rfl
  | some p => obtain ⟨d, ρ2⟩ := p; cases d <;> rfl
theorem enSD_lst {k : Int} {K : List D → En → Prop} : enSD k K ρ (.lst l) = K (enD k l) ρ := rfl
end
end Pm

namespace Pm
open PySem PySem.Spec PyProof.Rows L2
section
variable {ρ : En} {Rr : R → En → Prop} {Ee : Exn → En → Prop} {E : Ep} {i j : Nat} {nm f g m fld : Str} {d : D} {l : List D} {x : Exn} {r : R} {Te : TEp} {TT : TTp} {TA : TAp} {T Tb : TSp} {Ts : Exn → TSp} {φ : Fn} {ms : List Bool} {tb : Str → Option Bool}
theorem nm_ob {fs : List (Str × FC)} : nmK i Rr ρ (some (.ob nm fs)) = Rr (.al i) ρ := rfl
theorem nm_ds {fs : List (Str × FC)} : nmK i Rr ρ (some (.ds fs)) = Rr (.al i) ρ := rfl
theorem isOw_ds {fs : List (Str × FC)} : isOw (.ds fs) = true := rfl
theorem e_nxE : nxE Te ρ Rr Ee = Te ρ Rr (fun _ _ => False) := rfl
theorem e_nxT {K : Bool → En → Prop} : nxT TT ρ K Ee = TT ρ K (fun _ _ => False) := rfl
theorem e_nxI {TI : TIp'} {K : List D → En → Prop} : nxI TI ρ K Ee = TI ρ K (fun _ _ => False) := rfl
theorem e_nxS : nxS T ρ E = T ρ E.no := rfl
theorem no_nx : E.no.nx = E.nx := rfl
theorem no_rt : E.no.rt = E.rt := rfl
theorem no_bk : E.no.bk = E.bk := rfl
theorem no_ct : E.no.ct = E.ct := rfl
theorem no_ex : E.no.ex = fun _ _ => False := rfl
theorem su_nx : (suE i E).nx ρ = E.nx (ρ.set i .no) := rfl
theorem su_bk : (suE i E).bk ρ = E.bk (ρ.set i .no) := rfl
theorem su_ct : (suE i E).ct ρ = E.ct (ρ.set i .no) := rfl
theorem su_rt : (suE i E).rt = E.rt := rfl
theorem su_ex : (suE i E).ex = E.ex := rfl
def raK (nm fld : Str) (E : Ep) (ρ : En) : List R → Prop
  | [r] => oD (fzC ρ r) fun p => (∃ v, flD p.1 = some v) ∧ E.ex ⟨nm, [(fld, p.1)]⟩ p.2
  | _ => False
theorem e_raise : sRaise nm fld TA ρ E = TA ρ (fun rs ρ1 => raK nm fld E ρ1 rs) (fun _ _ => False) := by
  unfold sRaise
  congr 1
  funext rs ρ1
  match rs with
  | [] => rfl
  | [r] =>
    show (match fzC ρ1 r with | some (d, ρ2) => _ | none => False) = oD (fzC ρ1 r) _
    cases fzC ρ1 r <;> rfl
  | _ :: _ :: _ => rfl
theorem raK_1 : raK nm fld E ρ [r] = oD (fzC ρ r) fun p => (∃ v, flD p.1 = some v) ∧ E.ex ⟨nm, [(fld, p.1)]⟩ p.2 := rfl
theorem fl_int {k : Int} : (∃ v, flD (.int k) = some v) = True := propext ⟨fun _ => trivial, fun _ => ⟨_, rfl⟩⟩
theorem fl_str {k : Str} : (∃ v, flD (.str k) = some v) = True := propext ⟨fun _ => trivial, fun _ => ⟨_, rfl⟩⟩
theorem e_callX : tCallX φ ms TA ρ Rr Ee = TA ρ (fun rs ρ1 => callK φ ms [] rs ρ1 Rr Ee) (fun _ _ => False) := rfl
def meX (nm : Str) (i : Nat) (m : Str) (φ : Fn) (ms : List Bool) (TA : TAp) (ρ : En) (Rr : R → En → Prop) (Ee : Exn → En → Prop) : Option Ct → Prop
  | some (.ob nm' fs) => nm' = nm ∧ fs.lookup m = none ∧ TA ρ (fun rs ρ1 => callK φ (true :: ms) [] (.al i :: rs) ρ1 Rr Ee) (fun _ _ => False)
  | _ => False
theorem e_meX : tMeX nm i m φ ms TA ρ Rr Ee = meX nm i m φ ms TA ρ Rr Ee ρ[i]? := by
  unfold tMeX meX
  cases ρ[i]? with
  | none => rfl
  | some ct => cases ct <;> rfl
theorem meX_ob {fs : List (Str × FC)} : meX nm i m φ ms TA ρ Rr Ee (some (.ob nm fs)) = oN (fs.lookup m) (TA ρ (fun rs ρ1 => callK φ (true :: ms) [] (.al i :: rs) ρ1 Rr Ee) (fun _ _ => False)) := by
  show (nm = nm ∧ fs.lookup m = none ∧ _) = _
  cases fs.lookup m with
  | none => simp [oN]
  | some x => simp [oN]
variable {ca : List (Str × Bool)}
abbrev lkB (t : List (Str × Bool)) : Str → Option Bool := fun nm => t.lookup nm
theorem e_try : sTry i (lkB ca) Tb Ts ρ E = Tb ρ (trE i (lkB ca) Ts E) := rfl
theorem tr_nx {ca : Str → Option Bool} : (trE i ca Ts E).nx = E.nx := rfl
theorem tr_rt {ca : Str → Option Bool} : (trE i ca Ts E).rt = E.rt := rfl
theorem tr_bk {ca : Str → Option Bool} : (trE i ca Ts E).bk = E.bk := rfl
theorem tr_ct {ca : Str → Option Bool} : (trE i ca Ts E).ct = E.ct := rfl
def trK : Option Bool → Prop → Prop
  | some true, p => p
  | _, _ => False
theorem tr_ex {fs : List (Str × D)} : (trE i (lkB ca) Ts E).ex ⟨nm, fs⟩ ρ = trK (ca.lookup nm) (i < ρ.length ∧ Ts ⟨nm, fs⟩ (ρ.set i .no) (suE i E)) := by
  show (match ca.lookup nm with | some true => _ | _ => False) = _
  cases ca.lookup nm with
  | none => rfl
  | some b => cases b <;> rfl
theorem trK_t {p : Prop} : trK (some true) p = p := rfl
theorem e_ea {fs : List (Str × D)} : tEA ⟨nm, fs⟩ f ρ Rr Ee = oD (fs.lookup f) fun d => Rr (.va (Fz d)) ρ := by
  show (match fs.lookup f with | some d => _ | none => False) = _
  cases fs.lookup f <;> rfl
theorem e_ei {fs : List (Str × D)} : tEI (lkB ca) ⟨nm, fs⟩ ρ Rr Ee = oD (ca.lookup nm) fun b => Rr (.va (Fz (.bl b))) ρ := by
  show (match ca.lookup nm with | some b => _ | none => False) = _
  cases ca.lookup nm <;> rfl
end
section
variable {c : Cc} {X : Cx} {ek : EK} {fl : Bool} {pos : Pos} {i : Nat} {x n : Str} {y : Exn} {ad dd C : Addr} {f : Str} {dv : D} {w : V} {oe : Obj} {pn : List (Addr × Obj)} {np p cp : Pos}
/-- what an except clause for x says of the errors in the table -/
def HandOk (K : PySem.W.Frag) (cls : Str → Option Addr) (mg : Str → Option Value) (x : Str) (tb : List (Str × Bool)) : Prop :=
  ∃ Cv : Addr, mg x = some (.ref Cv) ∧ ∀ nm C b, cls nm = some C → lkB tb nm = some b → PySem.W.exmOne K (.ref C) (.ref Cv) = some b
theorem s_tryN (i : Nat) {body suite : List Stmt} {b₀ : Stmt} {pos' : Pos} {tb : List (Str × Bool)} {Tb : TSp} {Ts : Exn → TSp} (F : HandOk X.K c.cls X.mg x tb) (hs : X.stack = X.env :: X.outer) (hf : X.env.frame = some X.env.locals) (hN : X.N.Nodup) (hil : i ∉ c.lock)
    (hb : ∀ (pn : List (Addr × Obj)) (xe : Value → Shared → Prop), PassesOwn (model X.prog X.w) X.A X.env xe → PSsx c (X.tr pn xe) body Tb)
    (hsu : ∀ (a : Addr) (oe : Obj) (pn : List (Addr × Obj)) (y : Exn) (C dd : Addr) (f : Str) (dv : D) (v : V), L2N.Zn (.ref C) (some dd) oe → (∃ vs, oe.data = .fields vs) → c.cls y.nm = some C → y.fs = [(f, dv)] → flD dv = some v → ExI c.K C f →
      PSsp (c.su i a dd f v) ek0 (X.suite a ((a, oe) :: pn)) (b₀ :: suite) (Ts y))
    (hi : X.N[i]? = some n := by rfl) (hln : X.env.kindOf n = some .local := by rfl) (hg : Gl X x := by rfl) (hdb : (x == ("__debug__" : Str)) = false := by decide) :
    PSp c ek0 X (.Try body [.ExceptHandler (some (.Name x np)) (some n) (b₀ :: suite) pos'] [] [] pos) (sTry i (lkB tb) Tb Ts) := by
  obtain ⟨Cv, hm, hx⟩ := F
  exact s_try i hs hf hN ⟨hg, hdb, .inl hm⟩ hx hil hb hsu hi hln
def IsOk (K : PySem.W.Frag) (cls : Str → Option Addr) (mg : Str → Option Value) (x : Str) (tb : List (Str × Bool)) : Prop :=
  ∃ Cv : Addr, mg x = some (.ref Cv) ∧ ∀ nm C b, cls nm = some C → lkB tb nm = some b → PySem.W.kitOne K (.ref C) (.ref Cv) = some b
theorem p_eiN {cn : Str} {tb : List (Str × Bool)} (F : IsOk X.K c.cls X.mg cn tb) (h1 : X.mg "isinstance" = none) (hz : L2N.Zn (.ref C) (some dd) oe) (hf : ∃ vs, oe.data = .fields vs) (hcl : c.cls y.nm = some C) (xi : ExI c.K C f) (hK : X.K = c.K := by rfl)
    (hN : X.N[i]? = some n := by rfl) (hv : Vis X.env.scope n := by first | exact Or.inl rfl | exact Or.inr (Or.inl rfl) | exact Or.inr (Or.inr rfl)) (hd : (n == ("__debug__" : Str)) = false := by decide) (hcd : (n == ("__classdict__" : Str)) = false := by decide) (hg : Gl X "isinstance" := by rfl) (hgc : Gl X cn := by rfl) (hdc : (cn == ("__debug__" : Str)) = false := by decide)
    (he : starEach [.Name n np, .Name cn cp] X.env = (false, eval (.Name n np) X.env) :: starEach [.Name cn cp] X.env := by rfl) (he2 : starEach [.Name cn cp] X.env = (false, eval (.Name cn cp) X.env) :: starEach [] X.env := by rfl) (hpl : (backTo pos (starEach [.Name cn cp] X.env)).any (·.1) = false := by rfl) :
    PEp (c.su i ad dd f w) ek fl (X.suite ad ((ad, oe) :: pn)) (.Call (.Name "isinstance" p) [.Name n np, .Name cn cp] [] pos) (tEI (lkB tb) y) := by
  obtain ⟨Cv, hm, hx⟩ := F
  exact p_ei hz hf hcl xi h1 (pe_glob (X := X.suite ad ((ad, oe) :: pn)) (v := .ref Cv) hgc hm rfl hdc) ClsW.ref hx hK hN hv hd hcd hg he he2 hpl
def IsTOk (K : PySem.W.Frag) (cls : Str → Option Addr) (mg : Str → Option Value) (x1 x2 x3 : Str) (tb : List (Str × Bool)) : Prop :=
  ∃ C1 C2 C3 : Addr, mg x1 = some (.ref C1) ∧ mg x2 = some (.ref C2) ∧ mg x3 = some (.ref C3) ∧ ∀ nm C b, cls nm = some C → lkB tb nm = some b → PySem.W.kitAny K (.ref C) [.ref C1, .ref C2, .ref C3] = some b
theorem p_eiT3 {x1 x2 x3 : Str} {k : Nat} {tpos cp1 cp2 cp3 : Pos} {tb : List (Str × Bool)} (F : IsTOk X.K c.cls X.mg x1 x2 x3 tb) (h1 : X.mg "isinstance" = none) (hz : L2N.Zn (.ref C) (some dd) oe) (hf : ∃ vs, oe.data = .fields vs) (hcl : c.cls y.nm = some C) (xi : ExI c.K C f) (hK : X.K = c.K := by rfl)
    (hN : X.N[i]? = some n := by rfl) (hv : Vis X.env.scope n := by first | exact Or.inl rfl | exact Or.inr (Or.inl rfl) | exact Or.inr (Or.inr rfl)) (hd : (n == ("__debug__" : Str)) = false := by decide) (hcd : (n == ("__classdict__" : Str)) = false := by decide) (hg : Gl X "isinstance" := by rfl)
    (hg1 : Gl X x1 := by rfl) (hg2 : Gl X x2 := by rfl) (hg3 : Gl X x3 := by rfl) (hd1 : (x1 == ("__debug__" : Str)) = false := by decide) (hd2 : (x2 == ("__debug__" : Str)) = false := by decide) (hd3 : (x3 == ("__debug__" : Str)) = false := by decide)
    (hs1 : starEach [.Name x1 cp1, .Name x2 cp2, .Name x3 cp3] X.env = (false, eval (.Name x1 cp1) X.env) :: starEach [.Name x2 cp2, .Name x3 cp3] X.env := by rfl) (hs2 : starEach [.Name x2 cp2, .Name x3 cp3] X.env = (false, eval (.Name x2 cp2) X.env) :: starEach [.Name x3 cp3] X.env := by rfl) (hs3 : starEach [.Name x3 cp3] X.env = (false, eval (.Name x3 cp3) X.env) :: starEach [] X.env := by rfl)
    (he : starEach [.Name n np, .Tuple [.Name x1 cp1, .Name x2 cp2, .Name x3 cp3] k tpos] X.env = (false, eval (.Name n np) X.env) :: starEach [.Tuple [.Name x1 cp1, .Name x2 cp2, .Name x3 cp3] k tpos] X.env := by rfl) (he2 : starEach [.Tuple [.Name x1 cp1, .Name x2 cp2, .Name x3 cp3] k tpos] X.env = (false, eval (.Tuple [.Name x1 cp1, .Name x2 cp2, .Name x3 cp3] k tpos) X.env) :: starEach [] X.env := by rfl)
    (hpl : (backTo pos (starEach [.Tuple [.Name x1 cp1, .Name x2 cp2, .Name x3 cp3] k tpos] X.env)).any (·.1) = false := by rfl) :
    PEp (c.su i ad dd f w) ek fl (X.suite ad ((ad, oe) :: pn)) (.Call (.Name "isinstance" p) [.Name n np, .Tuple [.Name x1 cp1, .Name x2 cp2, .Name x3 cp3] k tpos] [] pos) (tEI (lkB tb) y) := by
  obtain ⟨C1, C2, C3, m1, m2, m3, hx⟩ := F
  refine p_eiT (vs := [.ref C1, .ref C2, .ref C3]) (us := [.ref C1, .ref C2, .ref C3]) hz hf hcl xi h1 ?_ (.cons ClsW.ref (.cons ClsW.ref (.cons ClsW.ref .nil))) (by simp) hx hK hN hv hd hcd hg he he2 hpl
  exact pa_cons (pe_glob (X := X.suite ad ((ad, oe) :: pn)) (v := .ref C1) hg1 m1 rfl hd1) (pa_cons (pe_glob (X := X.suite ad ((ad, oe) :: pn)) (v := .ref C2) hg2 m2 rfl hd2) (pa_cons (pe_glob (X := X.suite ad ((ad, oe) :: pn)) (v := .ref C3) hg3 m3 rfl hd3) pa_nil hs3) hs2) hs1
end
theorem kit_sub {K : PySem.W.Frag} {C1 C2 : Addr} {b : Bool} (hd : PySem.W.hasDictIn K C2 = true) (ht : PySem.W.typeIn K (.ref C2) = some (.type "type")) (h : PySem.W.subIn K (.ref C1) (.ref C2) = some b) (h1 : PySem.W.subIn K (.ref C1) (.ref C1) = some true) : PySem.W.kitOne K (.ref C1) (.ref C2) = some b := by
  obtain ⟨cd, hc, _⟩ := PySem.W.any_some hd
  unfold PySem.W.kitOne
  by_cases e : C1 = C2
  · subst e
    rw [h1] at h
    rw [if_pos (by simp)]
    exact h
  · rw [if_neg (by simp [e])]
    show (if ((PySem.W.clsIn K C2).isSome && PySem.W.typeIn K (.ref C2) == some (.type "type")) = true then PySem.W.subIn K (.ref C1) (.ref C2) else none) = some b
    rw [hc, ht, if_pos (by rfl)]
    exact h
theorem exm_sub {K : PySem.W.Frag} {C1 C2 : Addr} {b : Bool} (hd : PySem.W.hasDictIn K C2 = true) (ht : PySem.W.typeIn K (.ref C2) = some (.type "type")) (hx : PySem.W.subIn K (.ref C2) (.type "BaseException") = some true) (h : PySem.W.subIn K (.ref C1) (.ref C2) = some b) : PySem.W.exmOne K (.ref C1) (.ref C2) = some b := by
  obtain ⟨cd, hc, _⟩ := PySem.W.any_some hd
  show (if (PySem.W.subIn K (.ref C2) (.type "BaseException") == some true) = true then PySem.W.kitCls K (.ref C1) (.ref C2) else none) = some b
  rw [hx, if_pos (by rfl)]
  show (if ((PySem.W.clsIn K C2).isSome && PySem.W.typeIn K (.ref C2) == some (.type "type")) = true then PySem.W.subIn K (.ref C1) (.ref C2) else none) = some b
  rw [hc, ht, if_pos (by rfl)]
  exact h
theorem ss_never {c : Cc} {X : Cx} {ek : EK} {sts : List Stmt} : PSsp c ek X sts sNever := by
  refine ⟨fun pins s σ H D I h => ?_⟩
  obtain ⟨_, _, _, _, _, hT, _⟩ := h
  exact (show False from hT).elim
theorem nqx_1 : (("BadText" : Str) == "BadJournal") = false := by decide +kernel
theorem nqx_2 : (("BadText" : Str) == "Refused") = false := by decide +kernel
theorem nqx_3 : (("BadText" : Str) == "TooFast") = false := by decide +kernel
theorem nqx_4 : (("BadText" : Str) == "WattsError") = false := by decide +kernel
theorem nqx_5 : (("BadJournal" : Str) == "BadText") = false := by decide +kernel
theorem nqx_6 : (("BadJournal" : Str) == "Refused") = false := by decide +kernel
theorem nqx_7 : (("BadJournal" : Str) == "TooFast") = false := by decide +kernel
theorem nqx_8 : (("BadJournal" : Str) == "WattsError") = false := by decide +kernel
theorem nqx_9 : (("Refused" : Str) == "BadText") = false := by decide +kernel
theorem nqx_10 : (("Refused" : Str) == "BadJournal") = false := by decide +kernel
theorem nqx_11 : (("Refused" : Str) == "TooFast") = false := by decide +kernel
theorem nqx_12 : (("Refused" : Str) == "WattsError") = false := by decide +kernel
theorem nqx_13 : (("TooFast" : Str) == "BadText") = false := by decide +kernel
theorem nqx_14 : (("TooFast" : Str) == "BadJournal") = false := by decide +kernel
theorem nqx_15 : (("TooFast" : Str) == "Refused") = false := by decide +kernel
theorem nqx_16 : (("TooFast" : Str) == "WattsError") = false := by decide +kernel
theorem nqx_17 : (("WattsError" : Str) == "BadText") = false := by decide +kernel
theorem nqx_18 : (("WattsError" : Str) == "BadJournal") = false := by decide +kernel
theorem nqx_19 : (("WattsError" : Str) == "Refused") = false := by decide +kernel
theorem nqx_20 : (("WattsError" : Str) == "TooFast") = false := by decide +kernel
theorem nqx_21 : (("line" : Str) == "reason") = false := by decide +kernel
theorem nqx_22 : (("line" : Str) == "index") = false := by decide +kernel
theorem nqx_23 : (("reason" : Str) == "line") = false := by decide +kernel
theorem nqx_24 : (("reason" : Str) == "index") = false := by decide +kernel
theorem nqx_25 : (("index" : Str) == "line") = false := by decide +kernel
theorem nqx_26 : (("index" : Str) == "reason") = false := by decide +kernel
theorem nqx_27 : (("listed" : Str) == "kept") = false := by decide +kernel
theorem nqx_28 : (("listed" : Str) == "count") = false := by decide +kernel
theorem nqx_29 : (("kept" : Str) == "listed") = false := by decide +kernel
theorem nqx_30 : (("kept" : Str) == "count") = false := by decide +kernel
theorem nqx_31 : (("count" : Str) == "listed") = false := by decide +kernel
theorem nqx_32 : (("count" : Str) == "kept") = false := by decide +kernel
theorem nqx_33 : (("place" : Str) == "listed") = false := by decide +kernel
theorem nqx_34 : (("place" : Str) == "kept") = false := by decide +kernel
theorem nqx_35 : (("place" : Str) == "count") = false := by decide +kernel
theorem nqx_36 : (("put" : Str) == "listed") = false := by decide +kernel
theorem nqx_37 : (("put" : Str) == "kept") = false := by decide +kernel
theorem nqx_38 : (("put" : Str) == "count") = false := by decide +kernel
theorem nqx_39 : (("drop" : Str) == "listed") = false := by decide +kernel
theorem nqx_40 : (("drop" : Str) == "kept") = false := by decide +kernel
theorem nqx_41 : (("drop" : Str) == "count") = false := by decide +kernel
theorem nqx_42 : (("jobs" : Str) == "listed") = false := by decide +kernel
theorem nqx_43 : (("jobs" : Str) == "kept") = false := by decide +kernel
theorem nqx_44 : (("jobs" : Str) == "count") = false := by decide +kernel
theorem nqx_45 : (("plan" : Str) == "listed") = false := by decide +kernel
theorem nqx_46 : (("plan" : Str) == "kept") = false := by decide +kernel
theorem nqx_47 : (("plan" : Str) == "count") = false := by decide +kernel
theorem nqx_48 : (("worked" : Str) == "listed") = false := by decide +kernel
theorem nqx_49 : (("worked" : Str) == "kept") = false := by decide +kernel
theorem nqx_50 : (("worked" : Str) == "count") = false := by decide +kernel
end Pm

namespace Pm
open PySem PySem.Spec PyProof.Rows L2
local macro_rules | `(tactic| walk_at "pm") => `(tactic| simp only [f_split, f_part, f_rmp, f_join, e_fmt, fmtK_str, fmtK_int, e_joined, tJP_nil, tJP_cons, strK_str, f_intS, f_strI, e_iStrS, chK_str, e_starK, starD_lst, starD_tup, e_aStar, e_star, stK_lst, e_ch3_a, e_chG3, e_inT, e_inTT, inT_tup, c_inCh, c_ninCh, e_iEnS, enSD_lst, nm_ob, nm_ds, isOw_ds, e_forF, e_lcF, fldOw_ob, fldOw2_ow, forF_nil, forF_cons, tag_at, tagK_ob, e_unT, unTc_ob, unTk_ob, e_forEO, feoK_1, feo_ow, plOf_al, plOf_alf, lk_nx, lk_bk, lk_ct, lk_ex, lk_rt, e_subR, plJ_ow, e_delR, f_popAt, e_nxE, e_nxT, e_nxI, e_nxS, no_nx, no_rt, no_bk, no_ct, no_ex, su_nx, su_bk, su_ct, su_rt, su_ex, e_raise, raK_1, fl_int, fl_str, e_callX, e_meX, meX_ob, e_try, tr_nx, tr_rt, tr_bk, tr_ct, tr_ex, trK_t, e_ea, e_ei, nqx_1, nqx_2, nqx_3, nqx_4, nqx_5, nqx_6, nqx_7, nqx_8, nqx_9, nqx_10, nqx_11, nqx_12, nqx_13, nqx_14, nqx_15, nqx_16, nqx_17, nqx_18, nqx_19, nqx_20, nqx_21, nqx_22, nqx_23, nqx_24, nqx_25, nqx_26, nqx_27, nqx_28, nqx_29, nqx_30, nqx_31, nqx_32, nqx_33, nqx_34, nqx_35, nqx_36, nqx_37, nqx_38, nqx_39, nqx_40, nqx_41, nqx_42, nqx_43, nqx_44, nqx_45, nqx_46, nqx_47, nqx_48, nqx_49, nqx_50, e_fd, fd_ob, fd_fz, fd_ow, fd_dk, lk_hit, lk_miss, lk_nil, pt_hit, pt_miss, pt_nil, nA_alf, vw_alf, af_ob, af_ds, afF_ds, setRf_ds, fcD_tow, fcU_fz, fcU_ow, fcU_dk, fcU_tow, fcU_tdk, fcR_fz, fcR_ow, fcR_dk, fcR_tow, fcR_tdk, Option.map_some, fcD_fz, fcD_ow, fcD_dk, cf_alf, cf_al, cf_va, afF_ob, alF_at, fzC_alf, afZ_ob, afZ_fz, afZ_ow, stC_alf, e_sFd, sfd_at, e_me, me_ob, oN_none, isOw_ob, e_mk, hd_cons, e_muR, muR1_ow, muR2_ow, isPl_al, isPl_alf, setR_al, setR_alf, setRf_ob, e_dn, e_dkK, dk1_dk, dk2_k, kD_int, kD_str, e_dg, e_di, e_diT, e_dp, e_keyK, e_dcc, dc_nil, dc_cons, e_srt, seqD_l, seqD_t, e_rev, f_lcm, c_inT, c_ninT, nq_1, nq_2, nq_3, nq_4, nq_5, nq_6, nq_7, Bool.false_bne, Bool.true_bne, e_lcO, e_mth, e_mth0, tyK_lst, tyK_str, tyD_lst, tyD_str, f_index, e_iEnum, enK_one, walkE_lst, walkE_tup, e_cSort, srtK_lst, f_maxL, f_minL, shp_rqs, any_rq, sz0, sz1, sz2, sz3, sz4, sz5, sz6, sz7, sz8, ix_pt0, ix_pt1, true_false_F, c_eqB, c_neB, sq_nx, ix_rq0, ix_rq1, c_eqR, c_neR, c_eqR0, c_neR0, isNon_rq, shp_rqT, clsD_rq_tuple, f_len_rq, e_iAny, walkA_lst, walkA_tup, e_oNone, e_oSome, oiK_int, e_slice, sl_lstD, sl_tupD, sl_strD, intK_int, e_chG, e_chT_le_lt, e_chT_lt_le, e_chT_le_le, e_chT_lt_lt, e_ch_le_lt, e_ch_lt_le, e_ch_le_le, e_ch_lt_lt, f_sum, f_all, f_any, e_mu, muN_ow, muK_ow, f_app, f_ext, f_pop, f_ins, sq_rt, sq_bk, sq_ct, sq_ex, lp_nx, lp_ct, lp_bk, lp_rt, lp_ex, fn_nx, fn_rt, fn_ex, oD_some, oD_none, e_nm, nm_fz, nm_ow, nm_dk, e_nmC, nmc_fz, e_K, vw_fz, vw_ow, vw_al, alV_fz, alV_ow, nA_va, nA_al, fzC_fz, fzC_ow, fzC_al, alZ_fz, alZ_ow, stC_va, stC_al, fzL_nil, fzL_cons, e_fzK, b_addI, b_addS, b_addL, b_addT, b_sub, b_mul, b_div, b_mod, b_pow, c_lt, c_le, c_gt, c_ge, c_eqS, c_neS, c_eqI, c_neI, c_eqT, c_neT, c_eqL, c_neL, c_is, c_isn, c_in, c_nin, isNon_non, isNon_int, isNon_str, isNon_tup, isNon_lst, isNon_bl, shp_intT, shp_nonT, shp_blT, shp_ratT, eqD_rat, e_bin, e_cmp, e_cmpT, e_tru, tru_bl, tru_int, tru_non, tru_lst, tru_tup, tru_str, trs_bl, trs_int, trs_non, trs_lst, trs_tup, trs_str, e_and, e_or, e_not, e_yes, isB_bl, e_andV, e_orV, e_notV, e_ifE, e_neg, neg_int, e_aNil, e_aOne, e_aCons, e_tup, e_lst, e_ix, ix_tupD, ix_lstD, ix_strD, e_isi, e_cb, e_cD1, e_cD2, e_list, list_tup, list_lst, list_scr, e_tuple, tup_tup, tup_lst, f_len_tup, f_len_lst, f_len_scr, f_len_str, f_int, f_abs, f_gcd, f_max, f_min, e_call, e_callK, fzM_nil, fzM_f, fzM_t, isOw_fz, isOw_ow, isOw_no, isOw_dk, brs_nil, brs_l, brs_r, cts_nil, cts_l, cts_r, wb_nil, wb_l, wb_r, outs_nil, outs_cons, ret_va, ret_al, e_sNil, e_seq, e_pass, e_brk, e_cnt, e_never, e_ret, e_retN, e_exp, e_if, e_set, e_aug, aug_int, augK_int, e_par, par_2, e_asg, e_sub, subN_ow, subK_ow, e_for, for_nil, for_cons, tg_nm, tg_tp, tgs_nil, tgs_cons, e_rng1, e_rng2, rngL1_1, rngL2_2, rngK1_int, rngK2_int, e_iLst, e_iTup, walkL_lst, walkT_tup, e_lc, lc_nil, lc_cons, wipeE_nil, wipeE_cons, clsD_int_int, clsD_int_bool, clsD_int_str, clsD_int_tuple, clsD_str_str, clsD_str_tuple, clsD_str_int, clsD_tup_tuple, clsD_tup_str, clsD_tup_int, clsD_non_tuple, clsD_non_str, clsD_non_int, clsD_bl_bool, clsD_bl_int, clsD_bl_tuple, atI_0, atI_1, atI_2, atI_3, atI_4, ixN5_0, ixN5_1, ixN5_2, ixN5_3, ixN5_4, List.map_cons, List.map_nil, List.cons_append, List.nil_append, List.append_nil, List.replicate, List.getElem?_cons_zero, List.getElem?_cons_succ, List.getD_cons_zero, List.getD_cons_succ, List.set_cons_zero, List.set_cons_succ, Option.bind_some, Option.bind_none, List.length_cons, List.length_nil, if_true, if_false, Bool.false_eq_true, Bool.not_true, Bool.not_false, Bool.not_eq_true', decide_eq_true_eq, decide_eq_false_iff_not, and_true, true_and, List.mem_cons, List.not_mem_nil, or_false, forall_eq, false_imp_iff, implies_true, List.nodup_nil, List.nodup_cons, not_false_eq_true, List.isEmpty_cons, List.isEmpty_nil, List.tail_cons, List.tail_nil])
/-! ### words: plain -/
def digs : List Nat := ("0123456789" : Str).cps.toList
def lets : List Nat := ("abcdefghijklmnopqrstuvwxyz" : Str).cps.toList
theorem mem_digs {k : Nat} : k ∈ digs ↔ 48 ≤ k ∧ k ≤ 57 := by
  have e : digs = [48, 49, 50, 51, 52, 53, 54, 55, 56, 57] := by decide +kernel
  rw [e]
  simp only [List.mem_cons, List.not_mem_nil, or_false]
  omega
theorem mem_lets {k : Nat} : k ∈ lets ↔ 97 ≤ k ∧ k ≤ 122 := by
  have e : lets = [97, 98, 99, 100, 101, 102, 103, 104, 105, 106, 107, 108, 109, 110, 111, 112, 113, 114, 115, 116, 117, 118, 119, 120, 121, 122] := by decide +kernel
  rw [e]
  simp only [List.mem_cons, List.not_mem_nil, or_false]
  omega
def allIn (s : List Nat) (w : Str) : Bool := w.cps.toList.all fun k => decide (k ∈ s)
def nameW (w : Str) : Bool := decide (1 ≤ w.length ∧ w.length ≤ 8) && allIn lets w
def lead0 (w : Str) : Bool := decide (w.cps.toList[0]? = some 48) && decide (w ≠ ("0" : Str))
def numW (most : Nat) (w : Str) : Option Int := if (decide (1 ≤ w.length ∧ w.length ≤ most) && allIn digs w && !lead0 w) = true then some ((PySem.NumText.digitsVal w.cps.toList : Nat) : Int) else none
def optI : Option Int → D
  | some k => .int k
  | none => .non
theorem bls_all {s : List Nat} : ∀ l : List Nat, (bls? (l.flatMap fun k => [D.bl (decide (k ∈ s))])).map (fun bs => bs.all id) = some (l.all fun k => decide (k ∈ s))
  | [] => rfl
  | k :: l => by
    have ih := bls_all (s := s) l
    rw [List.flatMap_cons]
    show ((bls? (l.flatMap fun k => [D.bl (decide (k ∈ s))])).map (decide (k ∈ s) :: ·)).map _ = _
    cases e : bls? (l.flatMap fun k => [D.bl (decide (k ∈ s))]) with
    | none => rw [e] at ih; cases ih
    | some bs =>
      rw [e] at ih
      have ih : bs.all id = l.all fun k => decide (k ∈ s) := by simpa using ih
      show some ((decide (k ∈ s) :: bs).all id) = _
      rw [List.all_cons, List.all_cons, ih]; rfl
def T_is_name : TSp :=
  (sRet (tAndV (tChain .LtE .LtE (tK (.int 1)) (tCb (cD1 fLen) (tAOne (tNm 0))) (tK (.int 8))) (tCb (cD1 fAll) (tAOne (tLc' (iStrS (tNm 0)) (.nm 1) tYes' (tCmp .In (tNmC 1) (tK (.str "abcdefghijklmnopqrstuvwxyz"))) [1])))))
def φ_is_name : Fn := fun cs R0 _ => ∃ w : Str, cs = [Fz (.str w)] ∧ w.length ≤ 1000000 ∧ R0 (Fz (.bl (nameW w))) [.no]
theorem sp_is_name (cs : List Ct) (R0 : Ct → List Ct → Prop) (E0 : Exn → List Ct → Prop) : φ_is_name cs R0 E0 → fnOf 1 [] T_is_name cs R0 E0 := by
  rintro ⟨w, rfl, hw, h⟩
  rw [fnOf_eq]
  refine ⟨noOw _ rfl, ?_⟩
  unfold T_is_name
  walk_at "pm"
  have e1 : ((1 : Int) ≤ (w.length : Nat)) ↔ 1 ≤ w.length := by omega
  have e2 : (((w.length : Nat) : Int) ≤ 8) ↔ w.length ≤ 8 := by omega
  refine ⟨line_small (by omega), ?_⟩
  by_cases c1 : 1 ≤ w.length
  · rw [if_pos (e1.mpr c1)]
    by_cases c2 : w.length ≤ 8
    · rw [if_pos (e2.mpr c2)]
      unfold chs
      refine lc_pure (f := fun k : Nat => D.str ⟨#[k]⟩) (fun k => [D.bl (decide (k ∈ lets))]) _ (fun _ => True) ?_ (fun _ => by simp) _ [] (fun _ _ => trivial) (line_small (by rw [List.length_nil, Array.length_toList]; have : w.cps.size = w.length := rfl; omega)) ?_
      · intro k acc K _ hl hK
        walk_at "pm"
        exact ⟨hl, hK⟩
      · walk_at "pm"
        have ba := bls_all (s := lets) w.cps.toList
        obtain ⟨bs, b1, b2⟩ := Option.map_eq_some_iff.mp ba
        rw [b1]
        walk_at "pm"
        rw [b2]
        have : nameW w = (w.cps.toList.all fun k => decide (k ∈ lets)) := by unfold nameW allIn; rw [decide_eq_true ⟨c1, c2⟩, Bool.true_and]
        rw [this] at h
        exact h
    · rw [if_neg (fun z => c2 (e2.mp z))]
      have : nameW w = false := by unfold nameW; rw [decide_eq_false (fun z => c2 z.2), Bool.false_and]
      rw [this] at h
      exact h
  · rw [if_neg (fun z => c1 (e1.mp z))]
    have : nameW w = false := by unfold nameW; rw [decide_eq_false (fun z => c1 z.1), Bool.false_and]
    rw [this] at h
    exact h
def B_number_of_1 : TSp :=
  (sSeq (sIf (tAnd (tCmpT .Eq (tIx (tNm 0) (tK (.int 0))) (tK (.str "0"))) (tCmpT .NotEq (tNm 0) (tK (.str "0")))) (sRet (tK .non)) sNil)
    (sRet (tCb (cD1 fIntS) (tAOne (tNm 0)))))
def T_number_of : TSp :=
  (sSeq (sIf (tOr (tNot (tChainT .LtE .LtE (tK (.int 1)) (tCb (cD1 fLen) (tAOne (tNm 0))) (tNm 1))) (tNot (tTru (tCb (cD1 fAll) (tAOne (tLc' (iStrS (tNm 0)) (.nm 2) tYes' (tCmp .In (tNmC 2) (tK (.str "0123456789"))) [2])))))) (sRet (tK .non)) sNil)
    B_number_of_1)
def φ_number_of : Fn := fun cs R0 _ => ∃ (w : Str) (m : Nat), cs = [Fz (.str w), Fz (.int (m : Nat))] ∧ w.length ≤ 1000000 ∧ m ≤ 640 ∧ R0 (Fz (optI (numW m w))) [.no, .no]
theorem sp_number_of (cs : List Ct) (R0 : Ct → List Ct → Prop) (E0 : Exn → List Ct → Prop) : φ_number_of cs R0 E0 → fnOf 1 [] T_number_of cs R0 E0 := by
  rintro ⟨w, m, rfl, hw, hm, h⟩
  rw [fnOf_eq]
  refine ⟨noOw _ rfl, ?_⟩
  unfold T_number_of
  walk_at "pm"
  have e1 : ((1 : Int) ≤ (w.length : Nat)) ↔ 1 ≤ w.length := by omega
  have e2 : (((w.length : Nat) : Int) ≤ (m : Nat)) ↔ w.length ≤ m := by omega
  refine ⟨line_small (by omega), ?_⟩
  have sz : w.cps.toList.length = w.length := by rw [Array.length_toList]; rfl
  by_cases c1 : 1 ≤ w.length
  · rw [if_pos (e1.mpr c1)]
    by_cases c2 : w.length ≤ m
    · rw [if_neg (fun z => z (e2.mpr c2))]
      unfold chs
      refine lc_pure (f := fun k : Nat => D.str ⟨#[k]⟩) (fun k => [D.bl (decide (k ∈ digs))]) _ (fun _ => True) ?_ (fun _ => by simp) _ [] (fun _ _ => trivial) (line_small (by rw [List.length_nil]; omega)) ?_
      · intro k acc K _ hl hK
        walk_at "pm"
        exact ⟨hl, hK⟩
      · walk_at "pm"
        have ba := bls_all (s := digs) w.cps.toList
        obtain ⟨bs, b1, b2⟩ := Option.map_eq_some_iff.mp ba
        rw [b1]
        walk_at "pm"
        rw [b2]
        by_cases c3 : allIn digs w = true
        · have c3' : (w.cps.toList.all fun k => decide (k ∈ digs)) = true := c3
          rw [c3']
          walk_at "pm"
          unfold B_number_of_1
          walk_at "pm"
          obtain ⟨k0, hk0⟩ : ∃ k0, w.cps.toList[0]? = some k0 := ⟨_, List.getElem?_eq_getElem (by omega)⟩
          refine ⟨line_small (by omega), ?_⟩
          rw [show atI w.cps.toList 0 = some k0 from atI_k 0 hk0]
          walk_at "pm"
          have l0 : (((⟨#[k0]⟩ : Str) = ("0" : Str)) ∧ ¬ w = ("0" : Str)) ↔ lead0 w = true := by
            unfold lead0
            rw [hk0, Bool.and_eq_true, decide_eq_true_iff, decide_eq_true_iff]
            constructor
            · rintro ⟨a, b⟩
              have := congrArg (fun s : Str => s.cps.toList) a
              have : [k0] = [48] := this
              exact ⟨by simpa using this, b⟩
            · rintro ⟨a, b⟩
              cases a
              exact ⟨rfl, b⟩
          by_cases c4 : lead0 w = true
          · have n : numW m w = none := by unfold numW; rw [c4, Bool.not_true, Bool.and_false, if_neg (by decide)]
            rw [n] at h
            obtain ⟨q1, q2⟩ := l0.mpr c4
            rw [if_pos q1, if_pos q2]
            exact h
          · rw [Bool.not_eq_true] at c4
            have n : numW m w = some ((PySem.NumText.digitsVal w.cps.toList : Nat) : Int) := by unfold numW; rw [c4, c3, decide_eq_true ⟨c1, c2⟩]; rfl
            rw [n] at h
            have fin : ∃ n, PySem.intText? w = some n ∧ w.length ≤ 640 ∧ R0 (Fz (.int n)) [.no, .no] := by
              refine ⟨_, PySem.intText_digits (fun k hk => mem_digs.mp ?_) (fun z => ?_) (by omega), by omega, h⟩
              · have := List.all_eq_true.mp c3' k hk
                simpa using this
              · rw [z] at hk0; cases hk0
            by_cases q1 : (⟨#[k0]⟩ : Str) = ("0" : Str)
            · have q2 : w = ("0" : Str) := Classical.byContradiction fun z => by have := l0.mp ⟨q1, z⟩; rw [c4] at this; cases this
              rw [if_pos q1, if_neg (fun z => z q2)]
              exact fin
            · rw [if_neg q1]
              exact fin
        · have c3' : ¬ (w.cps.toList.all fun k => decide (k ∈ digs)) = true := c3
          rw [Bool.not_eq_true] at c3'
          rw [c3']
          walk_at "pm"
          have n : numW m w = none := by unfold numW; rw [Bool.not_eq_true] at c3; rw [c3, Bool.and_false, Bool.false_and, if_neg (by decide)]
          rw [n] at h
          exact h
    · rw [if_pos (fun z => c2 (e2.mp z))]
      have n : numW m w = none := by unfold numW; rw [decide_eq_false (fun z => c2 z.2), Bool.false_and, Bool.false_and, if_neg (by decide)]
      rw [n] at h
      exact h
  · rw [if_neg (fun z => c1 (e1.mp z))]
    have n : numW m w = none := by unfold numW; rw [decide_eq_false (fun z => c1 z.1), Bool.false_and, Bool.false_and, if_neg (by decide)]
    rw [n] at h
    exact h
/-! ### lines and words -/
theorem spl_len {S : List Nat} : ∀ {l : List Nat} {k : Nat} {acc p : List Nat}, p ∈ TL.spl S k acc l → p.length ≤ acc.length + l.length
  | [], k, acc, p, h => by rw [TL.spl_nil] at h; rw [List.mem_singleton.mp h]; simp
  | c :: r, 0, acc, p, h => by
    unfold TL.spl at h
    split at h
    · rcases List.mem_cons.mp h with rfl | h
      · simp
      · have := spl_len h; simp at this ⊢; omega
    · have := spl_len h
      simp at this ⊢; omega
  | c :: r, k + 1, acc, p, h => by
    unfold TL.spl at h
    have := spl_len h
    simp at this ⊢; omega
def nlS : Str := "\n"
def spS : Str := " "
theorem tl_nl : nlS.cps.toList = [10] := by decide +kernel
theorem tl_sp : spS.cps.toList = [32] := by decide +kernel
theorem ok_nl : nlS.cps.all (· < 256) = true := by decide +kernel
theorem ok_sp : spS.cps.all (· < 256) = true := by decide +kernel
theorem split_nl (t : Str) : (Txt.split t nlS).map TL.tl = TL.spl [10] 0 [] t.cps.toList := by
  have := TL.split_spl t nlS (by rw [show TL.tl nlS = [10] from tl_nl]; simp) (TL.kind_ok ok_nl)
  rw [this, show TL.tl nlS = [10] from tl_nl]
theorem split_sp (t : Str) : (Txt.split t spS).map TL.tl = TL.spl [32] 0 [] t.cps.toList := by
  have := TL.split_spl t spS (by rw [show TL.tl spS = [32] from tl_sp]; simp) (TL.kind_ok ok_sp)
  rw [this, show TL.tl spS = [32] from tl_sp]
theorem len_nl {t p : Str} (h : p ∈ Txt.split t nlS) : p.length ≤ t.length := by
  have := spl_len (p := TL.tl p) (S := [10]) (k := 0) (acc := []) (l := t.cps.toList) (by rw [← split_nl]; exact List.mem_map.mpr ⟨p, h, rfl⟩)
  rw [TL.len_tl, TL.len_tl]
  simpa using this
theorem len_sp {t p : Str} (h : p ∈ Txt.split t spS) : p.length ≤ t.length := by
  have := spl_len (p := TL.tl p) (S := [32]) (k := 0) (acc := []) (l := t.cps.toList) (by rw [← split_sp]; exact List.mem_map.mpr ⟨p, h, rfl⟩)
  rw [TL.len_tl, TL.len_tl]
  simpa using this
theorem spl_ne {S : List Nat} : ∀ {l : List Nat} {k : Nat} {acc : List Nat}, TL.spl S k acc l ≠ []
  | [], k, acc => by rw [TL.spl_nil]; simp
  | c :: r, 0, acc => by
    unfold TL.spl
    split
    · simp
    · exact spl_ne
  | c :: r, k + 1, acc => by unfold TL.spl; exact spl_ne
theorem nl_ne (t : Str) : Txt.split t nlS ≠ [] := fun z => spl_ne (S := [10]) (by rw [← split_nl t, z]; rfl)
theorem drop_app : ∀ {l : List Str} {x : Str}, l.getLast? = some x → l.dropLast ++ [x] = l
  | [], _, h => by cases h
  | [a], x, h => by simp at h; simp [h]
  | a :: b :: l, x, h => by
    have := drop_app (l := b :: l) (x := x) (by simpa using h)
    simpa using this
/-- the lines of a text, and whether it ends with a newline -/
def linesW (t : Str) : List Str × Bool := if (Txt.split t nlS).getLast? = some ("" : Str) then ((Txt.split t nlS).dropLast, true) else (Txt.split t nlS, false)
def lnD (p : List Str × Bool) : D := .tup [.lst (p.1.map .str), .bl p.2]
def B_split_lines_1 : TSp :=
  (sSeq (sIf (tCmpT .Eq (tNm 2) (tK (.str ""))) (sRet (tTup (tACons (tNm 1) (tAOne (tK (.bl true)))))) sNil)
    (sRet (tTup (tACons (tBin (opB .Add) (tNm 1) (tLst (tAOne (tNm 2)))) (tAOne (tK (.bl false)))))))
def T_split_lines : TSp :=
  (sSeq (sStar 1 2 (tMth "str" fSplit (tNm 0) (tAOne (tK (.str "\n")))))
    B_split_lines_1)
def φ_split_lines : Fn := fun cs R0 _ => ∃ t : Str, cs = [Fz (.str t)] ∧ t.length ≤ 1000000 ∧ (Txt.split t nlS).length ≤ 16000 ∧ R0 (Fz (lnD (linesW t))) [.no]
theorem sp_split_lines (cs : List Ct) (R0 : Ct → List Ct → Prop) (E0 : Exn → List Ct → Prop) : φ_split_lines cs R0 E0 → fnOf 2 [] T_split_lines cs R0 E0 := by
  rintro ⟨t, rfl, ht, hn, h⟩
  rw [fnOf_eq]
  refine ⟨noOw _ rfl, ?_⟩
  unfold T_split_lines
  walk_at "pm"
  refine ⟨by decide +kernel, line_small (by omega), ?_⟩
  rw [show Txt.split t (Str.ofString "\n") = Txt.split t nlS from rfl]
  have hne := nl_ne t
  generalize hws : Txt.split t nlS = ws at hn hne
  obtain ⟨last, hlast⟩ : ∃ x, ws.getLast? = some x := by
    cases q : ws.getLast? with
    | none => rw [List.getLast?_eq_none_iff] at q; exact absurd q hne
    | some x => exact ⟨x, rfl⟩
  have e1 : (ws.map D.str)[(ws.map D.str).length - 1]? = some (.str last) := by
    rw [List.getElem?_map, List.length_map, ← List.getLast?_eq_getElem?, hlast]; rfl
  refine ⟨by rw [List.length_map]; omega, ?_⟩
  rw [e1]
  walk_at "pm"
  unfold B_split_lines_1
  walk_at "pm"
  have ed : (ws.map D.str).dropLast = ws.dropLast.map D.str := by rw [List.map_dropLast]
  rw [ed]
  unfold linesW at h
  rw [hws, hlast] at h
  by_cases c : last = ("" : Str)
  · rw [if_pos c]
    rw [if_pos (by rw [c])] at h
    exact h
  · rw [if_neg c]
    rw [if_neg (fun z => c (by cases z; rfl))] at h
    have e2 : ws.dropLast.map D.str ++ [.str last] = ws.map D.str := by
      have : ws.dropLast ++ [last] = ws := drop_app hlast
      conv => rhs; rw [← this]
      rw [List.map_append]; rfl
    have hl : (ws.dropLast.map D.str).length ≤ 16000 := by rw [List.length_map, List.length_dropLast]; omega
    refine ⟨line_small (by omega), ?_⟩
    rw [e2]
    exact h
/-! ### jobs of lines -/
def jobOk (a : Str) (x y z : Int) : Bool := nameW a && (decide (0 ≤ x) && (decide (x < y) && decide (y ≤ 10000))) && (decide (1 ≤ z) && decide (z ≤ 10000))
def T_is_job : TSp :=
  (sRet (tAndV (tCall φ_is_name [false] [] (tAOne (tNm 0))) (tAndV (tChain3 .LtE .Lt .LtE (tK (.int 0)) (tNm 1) (tNm 2) (tK (.int 10000))) (tChain .LtE .LtE (tK (.int 1)) (tNm 3) (tK (.int 10000))))))
def φ_is_job : Fn := fun cs R0 _ => ∃ (a : Str) (x y z : Int), cs = [Fz (.str a), Fz (.int x), Fz (.int y), Fz (.int z)] ∧ a.length ≤ 1000000 ∧ R0 (Fz (.bl (jobOk a x y z))) [.no, .no, .no, .no]
theorem sp_is_job (cs : List Ct) (R0 : Ct → List Ct → Prop) (E0 : Exn → List Ct → Prop) : φ_is_job cs R0 E0 → fnOf 0 [] T_is_job cs R0 E0 := by
  rintro ⟨a, x, y, z, rfl, ha, h⟩
  rw [fnOf_eq]
  refine ⟨noOw _ rfl, ?_⟩
  unfold T_is_job
  walk_at "pm"
  refine ⟨a, rfl, ha, ?_⟩
  walk_at "pm"
  unfold jobOk at h
  (repeat' split) <;> simp_all
def jobO : Option Job → D
  | some j => jbD j
  | none => .non
def jobP (a : Str) : Option Int → Option Int → Option Int → Option Job
  | some x, some y, some z => if jobOk a x y z = true then some ⟨a, x, y, z⟩ else none
  | _, _, _ => none
theorem jobO_some {j : Job} : jobO (some j) = .tup [.str j.nm, .int j.c, .int j.d, .int j.w] := rfl
theorem jobO_none : jobO none = .non := rfl
/-- the job of the words of a line -/
def jobWs : List Str → Option Job
  | [a, b, c, d] => jobP a (numW 5 b) (numW 5 c) (numW 5 d)
  | _ => none
def jobW (l : Str) : Option Job := jobWs (Txt.split l spS)
theorem shp_optI {o : Option Int} : Shn 0 (optI o) := by
  cases o <;> (unfold optI Shn D.py PyData.canLay0 PyData.depth; exact ⟨rfl, Nat.zero_le _⟩)
theorem shp_optIs {l : List (Option Int)} : shp (.lst (l.map optI)) := (Shn.lst (n := 0) fun x hx => by
  obtain ⟨q, hq, rfl⟩ := List.mem_map.mp hx
  exact shp_optI).shp (by omega)
theorem any_optI : ∀ {l : List (Option Int)}, ((l.map optI).any fun z => eqD z .non) = l.any (fun o => o.isNone)
  | [] => rfl
  | o :: l => by
    rw [List.map_cons, List.any_cons, List.any_cons, any_optI]
    cases o <;> rfl
def B_read_job_1 : TSp :=
  (sSeq (sIf (tOr (tCmpT .In (tK .non) (tNm 2)) (tNot (tTru (tCall φ_is_job [false, false, false, false] [] (tACons (tIx (tNm 1) (tK (.int 0))) (tAStar (tNm 2) tANil)))))) (sRet (tK .non)) sNil)
    (sRet (tTup (tACons (tIx (tNm 1) (tK (.int 0))) (tAStar (tNm 2) tANil)))))
def B_read_job_2 : TSp :=
  (sSeq (sSet 2 (tLc' (iAny (tSlice (tNm 1) (tOSome (tK (.int 1))) tONone)) (.nm 3) tYes' (tCall φ_number_of [false, false] [] (tACons (tNmC 3) (tAOne (tK (.int 5))))) [3]))
    B_read_job_1)
def B_read_job_3 : TSp :=
  (sSeq (sIf (tCmpT .NotEq (tCb (cD1 fLen) (tAOne (tNm 1))) (tK (.int 4))) (sRet (tK .non)) sNil)
    B_read_job_2)
def T_read_job : TSp :=
  (sSeq (sSet 1 (tMth "str" fSplit (tNm 0) (tAOne (tK (.str " ")))))
    B_read_job_3)
def φ_read_job : Fn := fun cs R0 _ => ∃ l : Str, cs = [Fz (.str l)] ∧ l.length ≤ 1000000 ∧ R0 (Fz (jobO (jobW l))) [.no]
theorem sp_read_job (cs : List Ct) (R0 : Ct → List Ct → Prop) (E0 : Exn → List Ct → Prop) : φ_read_job cs R0 E0 → fnOf 3 [] T_read_job cs R0 E0 := by
  rintro ⟨l, rfl, hl, h⟩
  rw [fnOf_eq]
  refine ⟨noOw _ rfl, ?_⟩
  unfold T_read_job
  walk_at "pm"
  refine ⟨by decide +kernel, line_small (by omega), ?_⟩
  rw [show Txt.split l (Str.ofString " ") = Txt.split l spS from rfl]
  have hw : ∀ p ∈ Txt.split l spS, p.length ≤ 1000000 := fun p hp => Nat.le_trans (len_sp hp) hl
  unfold jobW at h
  generalize Txt.split l spS = ws at hw h
  unfold B_read_job_3
  walk_at "pm"
  by_cases c : ws.length = 4
  · obtain ⟨w0, w1, w2, w3, rfl⟩ : ∃ a b c d, ws = [a, b, c, d] := by
      match ws, c with
      | [a, b, c, d], _ => exact ⟨_, _, _, _, rfl⟩
    rw [if_neg (fun z => z (by rfl))]
    unfold B_read_job_2
    walk_at "pm"
    rw [show cutD [D.str w0, D.str w1, D.str w2, D.str w3] (some 1) none = [D.str w1, D.str w2, D.str w3] from rfl]
    walk_at "pm"
    have h1 := hw w1 (by simp)
    have h2 := hw w2 (by simp)
    have h3 := hw w3 (by simp)
    refine ⟨w1, 5, rfl, h1, by omega, ?_⟩
    walk_at "pm"
    refine ⟨line_small (by omega), w2, 5, rfl, h2, by omega, ?_⟩
    walk_at "pm"
    refine ⟨line_small (by omega), w3, 5, rfl, h3, by omega, ?_⟩
    walk_at "pm"
    refine ⟨line_small (by omega), ?_⟩
    unfold B_read_job_1
    walk_at "pm"
    have hs := shp_optIs (l := [numW 5 w1, numW 5 w2, numW 5 w3])
    have ha := any_optI (l := [numW 5 w1, numW 5 w2, numW 5 w3])
    simp only [List.map_cons, List.map_nil] at hs ha
    refine ⟨hs, ?_⟩
    rw [ha]
    have h : R0 (Fz (jobO (jobP w0 (numW 5 w1) (numW 5 w2) (numW 5 w3)))) [.no] := h
    generalize numW 5 w1 = o1 at h
    generalize numW 5 w2 = o2 at h
    generalize numW 5 w3 = o3 at h
    have h0 := hw w0 (by simp)
    cases o1 with
    | none => exact h
    | some x =>
    cases o2 with
    | none => exact h
    | some y =>
    cases o3 with
    | none => exact h
    | some z =>
    show (if false = true then _ else _)
    rw [if_neg (by decide)]
    refine ⟨w0, x, y, z, rfl, h0, ?_⟩
    walk_at "pm"
    have h : R0 (Fz (jobO (if jobOk w0 x y z = true then some ⟨w0, x, y, z⟩ else none))) [.no] := h
    by_cases c2 : jobOk w0 x y z = true
    · rw [if_pos c2] at h
      rw [c2]
      walk_at "pm"
      exact h
    · rw [if_neg c2] at h
      rw [Bool.not_eq_true] at c2
      rw [c2]
      walk_at "pm"
      exact h
  · have e : jobWs ws = none := by
      unfold jobWs
      split
      · simp at c
      · rfl
    rw [e] at h
    rw [if_pos (fun z => c (by rw [List.length_map] at z; omega))]
    exact h
theorem any_strT {x : Str} : ∀ l : List Str, ((l.map D.str).any fun z => eqD z (.str x)) = decide (x ∈ l)
  | [] => by simp
  | a :: l => by
    rw [List.map_cons, List.any_cons, any_strT l, eqD_str]
    by_cases h : a = x
    · subst h; simp
    · have h' : ¬ x = a := fun z => h z.symm
      simp [h, h']
theorem shp_strT {a : Str} (h : PyData.strOk a = true) : shp (.str a) := by
  refine Shn.shp (n := 0) ?_ (by omega)
  unfold Shn D.py PyData.canLay0 PyData.depth; exact ⟨h, Nat.zero_le _⟩
theorem shp_strsT {l : List Str} (h : ∀ a ∈ l, PyData.strOk a = true) : shp (.lst (l.map D.str)) := (Shn.lst (n := 0) fun x hx => by
  obtain ⟨q, hq, rfl⟩ := List.mem_map.mp hx
  unfold Shn D.py PyData.canLay0 PyData.depth; exact ⟨h q hq, Nat.zero_le _⟩).shp (by omega)
/-- the jobs of lines, or the number of the first wrong one -/
def readL : Nat → List Job → List Str → Except Nat (List Job)
  | _, seen, [] => .ok seen
  | k, seen, l :: ls => match jobW l with
    | none => .error k
    | some j => if seen.length = 12 ∨ j.nm ∈ seen.map Job.nm then .error k else readL (k + 1) (seen ++ [j]) ls
def readJ (t : Str) : Except Nat (List Job) := match readL 1 [] (linesW t).1 with
  | .error k => .error k
  | .ok js => if (linesW t).2 = true then .ok js else .error (linesW t).1.length
def badT (k : Nat) : Exn := ⟨"BadText", [("line", .int (k : Nat))]⟩
def rdJK (R0 : Ct → List Ct → Prop) (E0 : Exn → List Ct → Prop) : Except Nat (List Job) → Prop
  | .ok js => R0 (Fz (.tup (js.map jbD))) [.no]
  | .error k => E0 (badT k) [.no]
theorem nameW_ok {w : Str} (h : nameW w = true) : PyData.strOk w = true := by
  unfold nameW at h
  rw [Bool.and_eq_true] at h
  have := List.all_eq_true.mp h.2
  unfold PyData.strOk
  rw [← Array.all_toList, List.all_eq_true]
  intro k hk
  have := mem_lets.mp (of_decide_eq_true (this k hk))
  simp
  omega
theorem jobW_nm {l : Str} {j : Job} (h : jobW l = some j) : nameW j.nm = true := by
  unfold jobW jobWs at h
  split at h
  · unfold jobP at h
    split at h
    · split at h
      · rename_i hok
        cases h
        unfold jobOk at hok
        simp only [Bool.and_eq_true] at hok
        exact hok.1.1
      · cases h
    · cases h
  · cases h
def B_read_jobs_1 : TSp :=
  (sSeq (sIf (nxT (tOr (tCmpT .Is (tNm 6) (tK .non)) (tOr (tCmpT .Eq (tCb (cD1 fLen) (tAOne (tNm 3))) (tK (.int 12))) (tCmpT .In (tIx (tNm 6) (tK (.int 0))) (tLcO 3 (.nm 7) tYes' (tIx (tNmC 7) (tK (.int 0))) [7]))))) (sRaise "BadText" "line" (tAOne (tNm 4))) sNil)
    (nxS (sExp (tMu 3 fApp (tAOne (tNm 6))))))
def B_read_jobs_2 : TSp :=
  (sSeq (nxS (sSet 6 (tCall φ_read_job [false] [] (tAOne (tNm 5)))))
    B_read_jobs_1)
def B_read_jobs_3 : TSp :=
  (sSeq (sIf (nxT (tNot (tTru (tNm 2)))) (sRaise "BadText" "line" (tAOne (tCb (cD1 fLen) (tAOne (tNm 1))))) sNil)
    (nxS (sRet (tCb cTuple (tAOne (tNm 3))))))
def B_read_jobs_4 : TSp :=
  (sSeq (sFor (nxI (iEnS 1 (tNm 1))) (.tp [.nm 4, .nm 5]) B_read_jobs_2)
    B_read_jobs_3)
def B_read_jobs_5 : TSp :=
  (sSeq (nxS (sSet 3 (tLst tANil)))
    B_read_jobs_4)
def T_read_jobs : TSp :=
  (sSeq (nxS (sAsg (.tp [.nm 1, .nm 2]) (tCall φ_split_lines [false] [] (tAOne (tNm 0)))))
    B_read_jobs_5)
def φ_read_jobs : Fn := fun cs R0 E0 => ∃ t : Str, cs = [Fz (.str t)] ∧ t.length ≤ 1000000 ∧ (Txt.split t nlS).length ≤ 16000 ∧ rdJK R0 E0 (readJ t)
theorem rj_loop {E : Ep} {c0 c1 c2 : Ct} : ∀ (ls : List Str) (k : Nat) (seen : List Job) (c4 c5 c6 c7 : Ct), (∀ l ∈ ls, l.length ≤ 1000000) → (∀ j ∈ seen, nameW j.nm = true) → seen.length ≤ 12 →
    (∀ js c4 c5 c6 c7, readL k seen ls = .ok js → E.nx [c0, c1, c2, Wl (js.map jbD), c4, c5, c6, c7]) → (∀ m c3 c4 c5 c6 c7, readL k seen ls = .error m → E.ex (badT m) [c0, c1, c2, c3, c4, c5, c6, c7]) →
    forK (.tp [.nm 4, .nm 5]) B_read_jobs_2 (enD (k : Nat) (ls.map D.str)) [c0, c1, c2, Wl (seen.map jbD), c4, c5, c6, c7] E
  | [], k, seen, c4, c5, c6, c7, _, _, _, h1, _ => h1 seen c4 c5 c6 c7 rfl
  | l :: ls, k, seen, c4, c5, c6, c7, hl, hs, hn, h1, h2 => by
    rw [List.map_cons]
    unfold enD
    rw [for_cons]
    unfold B_read_jobs_2
    walk_at "pm"
    refine ⟨l, rfl, hl l List.mem_cons_self, ?_⟩
    walk_at "pm"
    unfold B_read_jobs_1
    walk_at "pm"
    unfold readL at h1 h2
    cases q : jobW l with
    | none =>
      rw [q] at h1 h2
      rw [jobO_none]
      walk_at "pm"
      exact h2 k _ _ _ _ _ rfl
    | some j =>
      rw [q] at h1 h2
      have ejb : jbD j = .tup [.str j.nm, .int j.c, .int j.d, .int j.w] := rfl
      have hj : nameW j.nm = true := jobW_nm q
      rw [jobO_some]
      walk_at "pm"
      by_cases c : seen.length = 12
      · rw [if_pos (by rw [List.length_map, c]; rfl)]
        refine h2 k _ _ _ _ _ ?_
        exact if_pos (.inl c)
      · rw [if_neg (fun z => c (by rw [List.length_map] at z; omega))]
        rw [owAt_some (by rfl)]
        walk_at "pm"
        refine lcO_pure (f := jbD) (fun j : Job => [D.str j.nm]) _ (fun _ => True) (owAt_some rfl) ?_ (fun x => by simp) seen [] (fun _ _ => trivial) (line_small (by rw [List.length_nil]; omega)) ?_
        · intro x acc K hx hl' hK
          have ejx : jbD x = .tup [.str x.nm, .int x.c, .int x.d, .int x.w] := rfl
          rw [ejx]
          walk_at "pm"
          exact ⟨hl', hK⟩
        · have ef : ∀ l : List Job, (l.flatMap fun j : Job => [D.str j.nm]) = (l.map Job.nm).map .str := fun l => by
            induction l with
            | nil => rfl
            | cons j l ih => rw [List.flatMap_cons, ih]; rfl
          rw [ef, List.nil_append]
          walk_at "pm"
          refine ⟨shp_strT (nameW_ok hj), shp_strsT (fun a ha => by obtain ⟨x, hx, rfl⟩ := List.mem_map.mp ha; exact nameW_ok (hs x hx)), ?_⟩
          rw [any_strT]
          by_cases c2 : j.nm ∈ seen.map Job.nm
          · rw [if_pos (decide_eq_true c2)]
            refine h2 k _ _ _ _ _ ?_
            exact if_pos (.inr c2)
          · rw [if_neg (by rw [decide_eq_false c2]; decide)]
            refine ⟨line_small (by rw [List.length_map]; omega), ?_⟩
            have c3 : ¬ (seen.length = 12 ∨ j.nm ∈ seen.map Job.nm) := fun z => z.elim c c2
            rw [← ejb, show seen.map jbD ++ [jbD j] = (seen ++ [j]).map jbD by rw [List.map_append]; rfl]
            refine rj_loop ls (k + 1) (seen ++ [j]) _ _ _ _ (fun x hx => hl x (List.mem_cons_of_mem _ hx)) (fun x hx => ?_) (by rw [List.length_append]; simp; omega) (fun js a b d e hq => h1 js a b d e ((if_neg c3).trans hq)) (fun m a b d e f hq => h2 m a b d e f ((if_neg c3).trans hq))
            rcases List.mem_append.mp hx with hx | hx
            · exact hs x hx
            · rw [List.mem_singleton.mp hx]; exact hj
theorem sp_read_jobs (cs : List Ct) (R0 : Ct → List Ct → Prop) (E0 : Exn → List Ct → Prop) : φ_read_jobs cs R0 E0 → fnOf 7 [] T_read_jobs cs R0 E0 := by
  rintro ⟨t, rfl, ht, hn, h⟩
  rw [fnOf_eq]
  refine ⟨noOw _ rfl, ?_⟩
  unfold T_read_jobs
  walk_at "pm"
  refine ⟨t, rfl, ht, hn, ?_⟩
  unfold lnD
  walk_at "pm"
  unfold B_read_jobs_5
  walk_at "pm"
  unfold B_read_jobs_4
  walk_at "pm"
  have key := rj_loop (E := (fnE [Fz (D.str t)] R0 E0).sq B_read_jobs_3) (c0 := Fz (D.str t)) (c1 := Fz (D.lst (List.map D.str (linesW t).fst))) (c2 := Fz (D.bl (linesW t).snd)) (linesW t).1 1 [] .no .no .no .no ?_ (fun _ z => by cases z) (by simp) ?_ ?_
  · exact key
  · intro l hl
    have : l ∈ Txt.split t nlS := by
      unfold linesW at hl
      split at hl
      · exact List.dropLast_subset _ hl
      · exact hl
    exact Nat.le_trans (len_nl this) ht
  · intro js c4 c5 c6 c7 q
    walk_at "pm"
    unfold B_read_jobs_3
    walk_at "pm"
    unfold readJ at h
    rw [q] at h
    have h : rdJK R0 E0 (if (linesW t).2 = true then .ok js else .error (linesW t).1.length) := h
    cases e : (linesW t).2 with
    | true =>
      rw [e] at h
      walk_at "pm"
      exact h
    | false =>
      rw [e] at h
      walk_at "pm"
      rw [List.length_map]
      exact h
  · intro m c3 c4 c5 c6 c7 q
    unfold readJ at h
    rw [q] at h
    exact h
end Pm

namespace Pm
open PySem PySem.Spec PyProof.Rows L2
local macro_rules | `(tactic| walk_at "pm") => `(tactic| simp only [f_split, f_part, f_rmp, f_join, e_fmt, fmtK_str, fmtK_int, e_joined, tJP_nil, tJP_cons, strK_str, f_intS, f_strI, e_iStrS, chK_str, e_starK, starD_lst, starD_tup, e_aStar, e_star, stK_lst, e_ch3_a, e_chG3, e_inT, e_inTT, inT_tup, c_inCh, c_ninCh, e_iEnS, enSD_lst, nm_ob, nm_ds, isOw_ds, e_forF, e_lcF, fldOw_ob, fldOw2_ow, forF_nil, forF_cons, tag_at, tagK_ob, e_unT, unTc_ob, unTk_ob, e_forEO, feoK_1, feo_ow, plOf_al, plOf_alf, lk_nx, lk_bk, lk_ct, lk_ex, lk_rt, e_subR, plJ_ow, e_delR, f_popAt, e_nxE, e_nxT, e_nxI, e_nxS, no_nx, no_rt, no_bk, no_ct, no_ex, su_nx, su_bk, su_ct, su_rt, su_ex, e_raise, raK_1, fl_int, fl_str, e_callX, e_meX, meX_ob, e_try, tr_nx, tr_rt, tr_bk, tr_ct, tr_ex, trK_t, e_ea, e_ei, nqx_1, nqx_2, nqx_3, nqx_4, nqx_5, nqx_6, nqx_7, nqx_8, nqx_9, nqx_10, nqx_11, nqx_12, nqx_13, nqx_14, nqx_15, nqx_16, nqx_17, nqx_18, nqx_19, nqx_20, nqx_21, nqx_22, nqx_23, nqx_24, nqx_25, nqx_26, nqx_27, nqx_28, nqx_29, nqx_30, nqx_31, nqx_32, nqx_33, nqx_34, nqx_35, nqx_36, nqx_37, nqx_38, nqx_39, nqx_40, nqx_41, nqx_42, nqx_43, nqx_44, nqx_45, nqx_46, nqx_47, nqx_48, nqx_49, nqx_50, e_fd, fd_ob, fd_fz, fd_ow, fd_dk, lk_hit, lk_miss, lk_nil, pt_hit, pt_miss, pt_nil, nA_alf, vw_alf, af_ob, af_ds, afF_ds, setRf_ds, fcD_tow, fcU_fz, fcU_ow, fcU_dk, fcU_tow, fcU_tdk, fcR_fz, fcR_ow, fcR_dk, fcR_tow, fcR_tdk, Option.map_some, fcD_fz, fcD_ow, fcD_dk, cf_alf, cf_al, cf_va, afF_ob, alF_at, fzC_alf, afZ_ob, afZ_fz, afZ_ow, stC_alf, e_sFd, sfd_at, e_me, me_ob, oN_none, isOw_ob, e_mk, hd_cons, e_muR, muR1_ow, muR2_ow, isPl_al, isPl_alf, setR_al, setR_alf, setRf_ob, e_dn, e_dkK, dk1_dk, dk2_k, kD_int, kD_str, e_dg, e_di, e_diT, e_dp, e_keyK, e_dcc, dc_nil, dc_cons, e_srt, seqD_l, seqD_t, e_rev, f_lcm, c_inT, c_ninT, nq_1, nq_2, nq_3, nq_4, nq_5, nq_6, nq_7, Bool.false_bne, Bool.true_bne, e_lcO, e_mth, e_mth0, tyK_lst, tyK_str, tyD_lst, tyD_str, f_index, e_iEnum, enK_one, walkE_lst, walkE_tup, e_cSort, srtK_lst, f_maxL, f_minL, shp_rqs, any_rq, sz0, sz1, sz2, sz3, sz4, sz5, sz6, sz7, sz8, ix_pt0, ix_pt1, true_false_F, c_eqB, c_neB, sq_nx, ix_rq0, ix_rq1, c_eqR, c_neR, c_eqR0, c_neR0, isNon_rq, shp_rqT, clsD_rq_tuple, f_len_rq, e_iAny, walkA_lst, walkA_tup, e_oNone, e_oSome, oiK_int, e_slice, sl_lstD, sl_tupD, sl_strD, intK_int, e_chG, e_chT_le_lt, e_chT_lt_le, e_chT_le_le, e_chT_lt_lt, e_ch_le_lt, e_ch_lt_le, e_ch_le_le, e_ch_lt_lt, f_sum, f_all, f_any, e_mu, muN_ow, muK_ow, f_app, f_ext, f_pop, f_ins, sq_rt, sq_bk, sq_ct, sq_ex, lp_nx, lp_ct, lp_bk, lp_rt, lp_ex, fn_nx, fn_rt, fn_ex, oD_some, oD_none, e_nm, nm_fz, nm_ow, nm_dk, e_nmC, nmc_fz, e_K, vw_fz, vw_ow, vw_al, alV_fz, alV_ow, nA_va, nA_al, fzC_fz, fzC_ow, fzC_al, alZ_fz, alZ_ow, stC_va, stC_al, fzL_nil, fzL_cons, e_fzK, b_addI, b_addS, b_addL, b_addT, b_sub, b_mul, b_div, b_mod, b_pow, c_lt, c_le, c_gt, c_ge, c_eqS, c_neS, c_eqI, c_neI, c_eqT, c_neT, c_eqL, c_neL, c_is, c_isn, c_in, c_nin, isNon_non, isNon_int, isNon_str, isNon_tup, isNon_lst, isNon_bl, shp_intT, shp_nonT, shp_blT, shp_ratT, eqD_rat, e_bin, e_cmp, e_cmpT, e_tru, tru_bl, tru_int, tru_non, tru_lst, tru_tup, tru_str, trs_bl, trs_int, trs_non, trs_lst, trs_tup, trs_str, e_and, e_or, e_not, e_yes, isB_bl, e_andV, e_orV, e_notV, e_ifE, e_neg, neg_int, e_aNil, e_aOne, e_aCons, e_tup, e_lst, e_ix, ix_tupD, ix_lstD, ix_strD, e_isi, e_cb, e_cD1, e_cD2, e_list, list_tup, list_lst, list_scr, e_tuple, tup_tup, tup_lst, f_len_tup, f_len_lst, f_len_scr, f_len_str, f_int, f_abs, f_gcd, f_max, f_min, e_call, e_callK, fzM_nil, fzM_f, fzM_t, isOw_fz, isOw_ow, isOw_no, isOw_dk, brs_nil, brs_l, brs_r, cts_nil, cts_l, cts_r, wb_nil, wb_l, wb_r, outs_nil, outs_cons, ret_va, ret_al, e_sNil, e_seq, e_pass, e_brk, e_cnt, e_never, e_ret, e_retN, e_exp, e_if, e_set, e_aug, aug_int, augK_int, e_par, par_2, e_asg, e_sub, subN_ow, subK_ow, e_for, for_nil, for_cons, tg_nm, tg_tp, tgs_nil, tgs_cons, e_rng1, e_rng2, rngL1_1, rngL2_2, rngK1_int, rngK2_int, e_iLst, e_iTup, walkL_lst, walkT_tup, e_lc, lc_nil, lc_cons, wipeE_nil, wipeE_cons, clsD_int_int, clsD_int_bool, clsD_int_str, clsD_int_tuple, clsD_str_str, clsD_str_tuple, clsD_str_int, clsD_tup_tuple, clsD_tup_str, clsD_tup_int, clsD_non_tuple, clsD_non_str, clsD_non_int, clsD_bl_bool, clsD_bl_int, clsD_bl_tuple, atI_0, atI_1, atI_2, atI_3, atI_4, ixN5_0, ixN5_1, ixN5_2, ixN5_3, ixN5_4, List.map_cons, List.map_nil, List.cons_append, List.nil_append, List.append_nil, List.replicate, List.getElem?_cons_zero, List.getElem?_cons_succ, List.getD_cons_zero, List.getD_cons_succ, List.set_cons_zero, List.set_cons_succ, Option.bind_some, Option.bind_none, List.length_cons, List.length_nil, if_true, if_false, Bool.false_eq_true, Bool.not_true, Bool.not_false, Bool.not_eq_true', decide_eq_true_eq, decide_eq_false_iff_not, and_true, true_and, List.mem_cons, List.not_mem_nil, or_false, forall_eq, false_imp_iff, implies_true, List.nodup_nil, List.nodup_cons, not_false_eq_true, List.isEmpty_cons, List.isEmpty_nil, List.tail_cons, List.tail_nil])
def itS (k : Int) : Str := Str.ofString (toString k)
def lineS (j : Job) : Str := j.nm ++ spS ++ itS j.c ++ spS ++ itS j.d ++ spS ++ itS j.w ++ nlS
def jobsT (js : List Job) : Str := Txt.join "" (js.map lineS)
structure JobS (j : Job) : Prop where
  nm : j.nm.length ≤ 1000
  c : j.c.natAbs < 2 ^ 60
  d : j.d.natAbs < 2 ^ 60
  w : j.w.natAbs < 2 ^ 60
theorem log_of {a : Int} (h : a.natAbs < 2 ^ 60) : a.natAbs.log2 < 60 := by
  by_cases z : a.natAbs = 0
  · rw [z]; decide
  · exact (Nat.log2_lt z).mpr h
theorem itS_len {a : Int} (h : a.natAbs < 2 ^ 60) : (itS a).length ≤ 61 := by
  have := int_text_length_le (k := 60) (by decide) (log_of h)
  unfold itS
  rw [show (Str.ofString (toString a)).length = (toString a).length by
    rw [TL.len_tl, TL.tl_ofString, List.length_map]; rfl]
  omega
theorem len_appS (a b : Str) : (a ++ b).length = a.length + b.length := Str.length_append a b
theorem emp_app (a : Str) : Str.empty ++ a = a := TL.ext_tl (by rw [TL.tl_append]; rfl)
theorem lineS_len {j : Job} (s : JobS j) : (lineS j).length ≤ 1200 := by
  have h0 := s.nm
  have hc := itS_len s.c
  have hd := itS_len s.d
  have hw := itS_len s.w
  have h1 : spS.length = 1 := by decide +kernel
  have h2 : nlS.length = 1 := by decide +kernel
  unfold lineS
  simp only [len_appS]
  omega
theorem flat_strs {α : Type} {f : α → Str} : ∀ l : List α, (l.flatMap fun j => [D.str (f j)]) = (l.map f).map .str
  | [] => rfl
  | j :: l => by rw [List.flatMap_cons, flat_strs l]; rfl
def T_write_jobs : TSp :=
  (sRet (tMth "str" fJoin (tK (.str "")) (tAOne (tLc' (iAny (tNm 0)) (.tp [.nm 1, .nm 2, .nm 3, .nm 4]) tYes' (tJoined [(tFmtD (tNmC 1)), (tK (.str " ")), (tFmtD (tNmC 2)), (tK (.str " ")), (tFmtD (tNmC 3)), (tK (.str " ")), (tFmtD (tNmC 4)), (tK (.str "\n"))]) [1, 2, 3, 4]))))
def φ_write_jobs : Fn := fun cs R0 _ => ∃ js : List Job, cs = [Fz (.tup (js.map jbD))] ∧ js.length ≤ 5000 ∧ (∀ j ∈ js, JobS j) ∧ R0 (Fz (.str (jobsT js))) [.no]
theorem sp_write_jobs (cs : List Ct) (R0 : Ct → List Ct → Prop) (E0 : Exn → List Ct → Prop) : φ_write_jobs cs R0 E0 → fnOf 4 [] T_write_jobs cs R0 E0 := by
  rintro ⟨js, rfl, hl, hj, h⟩
  rw [fnOf_eq]
  refine ⟨noOw _ rfl, ?_⟩
  unfold T_write_jobs
  walk_at "pm"
  refine lc_pure (f := jbD) (fun j => [D.str (lineS j)]) _ (fun j => j ∈ js) ?_ (fun _ => by simp) js [] (fun _ h => h) (line_small (by rw [List.length_nil]; omega)) ?_
  · intro j acc K hx hl hK
    have ejb : jbD j = .tup [.str j.nm, .int j.c, .int j.d, .int j.w] := rfl
    rw [ejb]
    walk_at "pm"
    have s := hj j hx
    have h0 := s.nm
    have hc : (Str.ofString (toString j.c)).length ≤ 61 := itS_len s.c
    have hd : (Str.ofString (toString j.d)).length ≤ 61 := itS_len s.d
    have hw : (Str.ofString (toString j.w)).length ≤ 61 := itS_len s.w
    have h1 : (Str.ofString " ").length = 1 := by decide +kernel
    have h2 : (Str.ofString "\n").length = 1 := by decide +kernel
    have k1 := log_of s.c
    have k2 := log_of s.d
    have k3 := log_of s.w
    rw [emp_app]
    refine ⟨line_small (by omega), line_small (by omega), line_small (by simp only [len_appS]; omega), by omega, line_small (by simp only [len_appS]; omega), line_small (by simp only [len_appS]; omega), by omega, line_small (by simp only [len_appS]; omega), line_small (by simp only [len_appS]; omega), by omega, line_small (by simp only [len_appS]; omega), line_small (by simp only [len_appS]; omega), hl, ?_⟩
    exact hK
  · walk_at "pm"
    rw [flat_strs, strs_map]
    walk_at "pm"
    refine ⟨?_, h⟩
    have : (Str.ofString "").length = 0 := by decide +kernel
    rw [this, Nat.mul_zero]
    have hs : ((js.map lineS).map (fun x => x.length)).sum ≤ js.length * 1200 := by
      clear h hl
      induction js with
      | nil => simp
      | cons j l ih =>
        have := lineS_len (hj j List.mem_cons_self)
        have := ih fun x hx => hj x (List.mem_cons_of_mem _ hx)
        simp only [List.map_cons, List.sum_cons, List.length_cons]
        omega
    omega
/-! ### read back -/
theorem itS_tl (n : Nat) : (itS (n : Int)).cps.toList = TL.numL n := TL.tl_num n
theorem numL_hd : ∀ (n : Nat), (TL.numL n)[0]? = some 48 → n = 0 := by
  intro n
  induction n using Nat.strongRecOn with
  | _ n ih =>
    intro h
    by_cases h10 : n < 10
    · rw [TL.numL_lt h10] at h
      simp at h
      omega
    · rw [TL.numL_step (by omega)] at h
      have hne := TL.numL_ne (n / 10)
      have : (TL.numL (n / 10))[0]? = some 48 := by
        rw [List.getElem?_append_left (by have := List.length_pos_iff.mpr hne; omega)] at h
        exact h
      have := ih (n / 10) (by omega) this
      omega
theorem numW_itS {n m : Nat} (h : (TL.numL n).length ≤ m) : numW m (itS (n : Int)) = some (n : Int) := by
  have e := itS_tl n
  have hl : (itS (n : Int)).length = (TL.numL n).length := by rw [TL.len_tl, show TL.tl (itS (n : Int)) = _ from e]
  have h1 := List.length_pos_iff.mpr (TL.numL_ne n)
  unfold numW
  rw [if_pos, e, TL.numL_val]
  rw [Bool.and_eq_true, Bool.and_eq_true]
  refine ⟨⟨decide_eq_true ⟨by omega, by omega⟩, ?_⟩, ?_⟩
  · unfold allIn
    rw [e, List.all_eq_true]
    intro k hk
    exact decide_eq_true (mem_digs.mpr (TL.numL_digits n k hk))
  · unfold lead0
    rw [e]
    by_cases h0 : (TL.numL n)[0]? = some 48
    · have := numL_hd n h0
      subst this
      have : itS ((0 : Nat) : Int) = ("0" : Str) := by decide +kernel
      rw [this]; simp
    · rw [decide_eq_false h0]; rfl
theorem numW_int {k : Int} (h0 : 0 ≤ k) (h1 : k ≤ 10000) : numW 5 (itS k) = some k := by
  obtain ⟨n, rfl⟩ := Int.eq_ofNat_of_zero_le h0
  exact numW_itS (TL.numL_len (by decide) (by omega))
def lineB (j : Job) : Str := j.nm ++ spS ++ itS j.c ++ spS ++ itS j.d ++ spS ++ itS j.w
theorem lineS_eq (j : Job) : lineS j = lineB j ++ nlS := rfl
theorem itS_free {k : Int} (h0 : 0 ≤ k) {s : Nat} (h : s < 48 ∨ 57 < s) : s ∉ (itS k).cps.toList := by
  obtain ⟨n, rfl⟩ := Int.eq_ofNat_of_zero_le h0
  rw [itS_tl]
  exact TL.numL_free h
theorem nm_free {w : Str} (h : nameW w = true) {s : Nat} (hs : s < 97 ∨ 122 < s) : s ∉ w.cps.toList := fun hm => by
  unfold nameW at h
  rw [Bool.and_eq_true] at h
  have := mem_lets.mp (of_decide_eq_true (List.all_eq_true.mp h.2 s hm))
  omega
theorem lineB_tl (j : Job) : (lineB j).cps.toList = j.nm.cps.toList ++ ([32] ++ ((itS j.c).cps.toList ++ ([32] ++ ((itS j.d).cps.toList ++ ([32] ++ (itS j.w).cps.toList))))) := by
  have e : ∀ a b : Str, (a ++ b).cps.toList = a.cps.toList ++ b.cps.toList := TL.tl_append
  unfold lineB
  rw [e, e, e, e, e, e, tl_sp]
  simp only [List.append_assoc]
structure JobR (j : Job) : Prop where
  nm : nameW j.nm = true
  c0 : 0 ≤ j.c
  cd : j.c < j.d
  d1 : j.d ≤ 10000
  w0 : 1 ≤ j.w
  w1 : j.w ≤ 10000
theorem lineB_sp {j : Job} (h : JobR j) : Txt.split (lineB j) spS = [j.nm, itS j.c, itS j.d, itS j.w] := by
  have := h.c0; have := h.cd; have := h.w0
  refine TL.map_tl_inj ?_
  rw [split_sp, lineB_tl]
  rw [TL.spl_part1 (S := []) (nm_free h.nm (by omega)), TL.spl_part1 (S := []) (itS_free (by omega) (by omega)), TL.spl_part1 (S := []) (itS_free (by omega) (by omega)), TL.spl_last1 (itS_free (by omega) (by omega))]
  rfl
theorem jobW_line {j : Job} (h : JobR j) : jobW (lineB j) = some j := by
  have := h.c0; have := h.cd; have := h.w0; have := h.d1; have := h.w1
  unfold jobW
  rw [lineB_sp h]
  show jobP j.nm (numW 5 (itS j.c)) (numW 5 (itS j.d)) (numW 5 (itS j.w)) = _
  rw [numW_int (by omega) (by omega), numW_int (by omega) (by omega), numW_int (by omega) (by omega)]
  show (if jobOk j.nm j.c j.d j.w = true then _ else _) = _
  rw [if_pos]
  unfold jobOk
  simp [h.nm]
  omega
theorem lineB_nl {j : Job} (h : JobR j) : 10 ∉ (lineB j).cps.toList := by
  have := h.c0; have := h.cd; have := h.w0
  rw [lineB_tl]
  simp only [List.mem_append, List.mem_singleton, not_or]
  exact ⟨nm_free h.nm (by omega), by decide, itS_free (by omega) (by omega), by decide, itS_free (by omega) (by omega), by decide, itS_free (by omega) (by omega)⟩
theorem joinL_nil : ∀ l : List (List Nat), TL.joinL [] l = l.flatten
  | [] => rfl
  | [p] => by simp [TL.joinL]
  | p :: q :: r => by
    show p ++ ([] ++ TL.joinL [] (q :: r)) = _
    rw [joinL_nil (q :: r)]; simp
theorem join_tl (ls : List Str) : (Txt.join ("" : Str) ls).cps.toList = (ls.map fun s => s.cps.toList).flatten := by
  rw [TL.join_eq]
  have := TL.tl_join ("" : Str) ls
  rw [show TL.tl ("" : Str) = [] by decide +kernel, joinL_nil] at this
  exact this
theorem spl_lines : ∀ {ls : List (List Nat)}, (∀ l ∈ ls, 10 ∉ l) → ∀ {rest : List Nat}, TL.spl [10] 0 [] ((ls.map (· ++ [10])).flatten ++ rest) = ls ++ TL.spl [10] 0 [] rest
  | [], _, rest => by simp
  | l :: ls, h, rest => by
    rw [List.map_cons, List.flatten_cons, List.append_assoc, List.append_assoc]
    have := TL.spl_part1 (S := []) (acc := []) (rest := (ls.map (· ++ [10])).flatten ++ rest) (h l List.mem_cons_self)
    rw [show ([10] ++ ((ls.map (· ++ [10])).flatten ++ rest)) = (10 :: [] ++ ((ls.map (· ++ [10])).flatten ++ rest)) from rfl, this, spl_lines fun x hx => h x (List.mem_cons_of_mem _ hx)]
    rfl
theorem jobsT_sp {js : List Job} (h : ∀ j ∈ js, JobR j) : Txt.split (jobsT js) nlS = js.map lineB ++ [("" : Str)] := by
  refine TL.map_tl_inj ?_
  rw [split_nl]
  have e : (jobsT js).cps.toList = ((js.map fun j => (lineB j).cps.toList).map (· ++ [10])).flatten ++ [] := by
    unfold jobsT
    rw [join_tl, List.append_nil, List.map_map, List.map_map]
    congr 1
    refine List.map_congr_left fun j hj => ?_
    show (lineS j).cps.toList = (lineB j).cps.toList ++ [10]
    rw [lineS_eq, ← tl_nl]
    exact TL.tl_append _ _
  rw [e, spl_lines]
  · rw [List.map_append, List.map_map, TL.spl_nil]
    congr 1
  · intro l hl
    obtain ⟨j, hj, rfl⟩ := List.mem_map.mp hl
    exact lineB_nl (h j hj)
theorem jobsT_lines {js : List Job} (h : ∀ j ∈ js, JobR j) : linesW (jobsT js) = (js.map lineB, true) := by
  unfold linesW
  rw [jobsT_sp h, if_pos (by simp), List.dropLast_concat]
theorem readL_lines : ∀ {js : List Job} {seen : List Job} {k : Nat}, (∀ j ∈ js, JobR j) → seen.length + js.length ≤ 12 → ((seen ++ js).map Job.nm).Nodup → readL k seen (js.map lineB) = .ok (seen ++ js)
  | [], seen, k, _, _, _ => by rw [List.append_nil]; rfl
  | j :: js, seen, k, h, hl, hn => by
    rw [List.map_cons]
    unfold readL
    rw [jobW_line (h j List.mem_cons_self)]
    have c : ¬ (seen.length = 12 ∨ j.nm ∈ seen.map Job.nm) := by
      rw [List.length_cons] at hl
      rintro (z | z)
      · omega
      · rw [List.map_append, List.map_cons] at hn
        exact (List.nodup_append.mp hn).2.2 _ z _ List.mem_cons_self rfl
    show (if seen.length = 12 ∨ j.nm ∈ seen.map Job.nm then _ else _) = _
    rw [if_neg c, readL_lines (fun x hx => h x (List.mem_cons_of_mem _ hx)) (by rw [List.length_append]; simp at hl ⊢; omega) (by rw [List.append_assoc]; exact hn), List.append_assoc]
    rfl
theorem readJ_jobs {js : List Job} (h : ∀ j ∈ js, JobR j) (hl : js.length ≤ 12) (hn : (js.map Job.nm).Nodup) : readJ (jobsT js) = .ok js := by
  unfold readJ
  rw [jobsT_lines h, readL_lines h (by simpa using hl) (by simpa using hn)]
  rfl
end Pm

namespace Pm
open PySem PySem.Spec PyProof.Rows L2
local macro_rules | `(tactic| walk_at "pm") => `(tactic| simp only [f_split, f_part, f_rmp, f_join, e_fmt, fmtK_str, fmtK_int, e_joined, tJP_nil, tJP_cons, strK_str, f_intS, f_strI, e_iStrS, chK_str, e_starK, starD_lst, starD_tup, e_aStar, e_star, stK_lst, e_ch3_a, e_chG3, e_inT, e_inTT, inT_tup, c_inCh, c_ninCh, e_iEnS, enSD_lst, nm_ob, nm_ds, isOw_ds, e_forF, e_lcF, fldOw_ob, fldOw2_ow, forF_nil, forF_cons, tag_at, tagK_ob, e_unT, unTc_ob, unTk_ob, e_forEO, feoK_1, feo_ow, plOf_al, plOf_alf, lk_nx, lk_bk, lk_ct, lk_ex, lk_rt, e_subR, plJ_ow, e_delR, f_popAt, e_nxE, e_nxT, e_nxI, e_nxS, no_nx, no_rt, no_bk, no_ct, no_ex, su_nx, su_bk, su_ct, su_rt, su_ex, e_raise, raK_1, fl_int, fl_str, e_callX, e_meX, meX_ob, e_try, tr_nx, tr_rt, tr_bk, tr_ct, tr_ex, trK_t, e_ea, e_ei, nqx_1, nqx_2, nqx_3, nqx_4, nqx_5, nqx_6, nqx_7, nqx_8, nqx_9, nqx_10, nqx_11, nqx_12, nqx_13, nqx_14, nqx_15, nqx_16, nqx_17, nqx_18, nqx_19, nqx_20, nqx_21, nqx_22, nqx_23, nqx_24, nqx_25, nqx_26, nqx_27, nqx_28, nqx_29, nqx_30, nqx_31, nqx_32, nqx_33, nqx_34, nqx_35, nqx_36, nqx_37, nqx_38, nqx_39, nqx_40, nqx_41, nqx_42, nqx_43, nqx_44, nqx_45, nqx_46, nqx_47, nqx_48, nqx_49, nqx_50, e_fd, fd_ob, fd_fz, fd_ow, fd_dk, lk_hit, lk_miss, lk_nil, pt_hit, pt_miss, pt_nil, nA_alf, vw_alf, af_ob, af_ds, afF_ds, setRf_ds, fcD_tow, fcU_fz, fcU_ow, fcU_dk, fcU_tow, fcU_tdk, fcR_fz, fcR_ow, fcR_dk, fcR_tow, fcR_tdk, Option.map_some, fcD_fz, fcD_ow, fcD_dk, cf_alf, cf_al, cf_va, afF_ob, alF_at, fzC_alf, afZ_ob, afZ_fz, afZ_ow, stC_alf, e_sFd, sfd_at, e_me, me_ob, oN_none, isOw_ob, e_mk, hd_cons, e_muR, muR1_ow, muR2_ow, isPl_al, isPl_alf, setR_al, setR_alf, setRf_ob, e_dn, e_dkK, dk1_dk, dk2_k, kD_int, kD_str, e_dg, e_di, e_diT, e_dp, e_keyK, e_dcc, dc_nil, dc_cons, e_srt, seqD_l, seqD_t, e_rev, f_lcm, c_inT, c_ninT, nq_1, nq_2, nq_3, nq_4, nq_5, nq_6, nq_7, Bool.false_bne, Bool.true_bne, e_lcO, e_mth, e_mth0, tyK_lst, tyK_str, tyD_lst, tyD_str, f_index, e_iEnum, enK_one, walkE_lst, walkE_tup, e_cSort, srtK_lst, f_maxL, f_minL, shp_rqs, any_rq, sz0, sz1, sz2, sz3, sz4, sz5, sz6, sz7, sz8, ix_pt0, ix_pt1, true_false_F, c_eqB, c_neB, sq_nx, ix_rq0, ix_rq1, c_eqR, c_neR, c_eqR0, c_neR0, isNon_rq, shp_rqT, clsD_rq_tuple, f_len_rq, e_iAny, walkA_lst, walkA_tup, e_oNone, e_oSome, oiK_int, e_slice, sl_lstD, sl_tupD, sl_strD, intK_int, e_chG, e_chT_le_lt, e_chT_lt_le, e_chT_le_le, e_chT_lt_lt, e_ch_le_lt, e_ch_lt_le, e_ch_le_le, e_ch_lt_lt, f_sum, f_all, f_any, e_mu, muN_ow, muK_ow, f_app, f_ext, f_pop, f_ins, sq_rt, sq_bk, sq_ct, sq_ex, lp_nx, lp_ct, lp_bk, lp_rt, lp_ex, fn_nx, fn_rt, fn_ex, oD_some, oD_none, e_nm, nm_fz, nm_ow, nm_dk, e_nmC, nmc_fz, e_K, vw_fz, vw_ow, vw_al, alV_fz, alV_ow, nA_va, nA_al, fzC_fz, fzC_ow, fzC_al, alZ_fz, alZ_ow, stC_va, stC_al, fzL_nil, fzL_cons, e_fzK, b_addI, b_addS, b_addL, b_addT, b_sub, b_mul, b_div, b_mod, b_pow, c_lt, c_le, c_gt, c_ge, c_eqS, c_neS, c_eqI, c_neI, c_eqT, c_neT, c_eqL, c_neL, c_is, c_isn, c_in, c_nin, isNon_non, isNon_int, isNon_str, isNon_tup, isNon_lst, isNon_bl, shp_intT, shp_nonT, shp_blT, shp_ratT, eqD_rat, e_bin, e_cmp, e_cmpT, e_tru, tru_bl, tru_int, tru_non, tru_lst, tru_tup, tru_str, trs_bl, trs_int, trs_non, trs_lst, trs_tup, trs_str, e_and, e_or, e_not, e_yes, isB_bl, e_andV, e_orV, e_notV, e_ifE, e_neg, neg_int, e_aNil, e_aOne, e_aCons, e_tup, e_lst, e_ix, ix_tupD, ix_lstD, ix_strD, e_isi, e_cb, e_cD1, e_cD2, e_list, list_tup, list_lst, list_scr, e_tuple, tup_tup, tup_lst, f_len_tup, f_len_lst, f_len_scr, f_len_str, f_int, f_abs, f_gcd, f_max, f_min, e_call, e_callK, fzM_nil, fzM_f, fzM_t, isOw_fz, isOw_ow, isOw_no, isOw_dk, brs_nil, brs_l, brs_r, cts_nil, cts_l, cts_r, wb_nil, wb_l, wb_r, outs_nil, outs_cons, ret_va, ret_al, e_sNil, e_seq, e_pass, e_brk, e_cnt, e_never, e_ret, e_retN, e_exp, e_if, e_set, e_aug, aug_int, augK_int, e_par, par_2, e_asg, e_sub, subN_ow, subK_ow, e_for, for_nil, for_cons, tg_nm, tg_tp, tgs_nil, tgs_cons, e_rng1, e_rng2, rngL1_1, rngL2_2, rngK1_int, rngK2_int, e_iLst, e_iTup, walkL_lst, walkT_tup, e_lc, lc_nil, lc_cons, wipeE_nil, wipeE_cons, clsD_int_int, clsD_int_bool, clsD_int_str, clsD_int_tuple, clsD_str_str, clsD_str_tuple, clsD_str_int, clsD_tup_tuple, clsD_tup_str, clsD_tup_int, clsD_non_tuple, clsD_non_str, clsD_non_int, clsD_bl_bool, clsD_bl_int, clsD_bl_tuple, atI_0, atI_1, atI_2, atI_3, atI_4, ixN5_0, ixN5_1, ixN5_2, ixN5_3, ixN5_4, List.map_cons, List.map_nil, List.cons_append, List.nil_append, List.append_nil, List.replicate, List.getElem?_cons_zero, List.getElem?_cons_succ, List.getD_cons_zero, List.getD_cons_succ, List.set_cons_zero, List.set_cons_succ, Option.bind_some, Option.bind_none, List.length_cons, List.length_nil, if_true, if_false, Bool.false_eq_true, Bool.not_true, Bool.not_false, Bool.not_eq_true', decide_eq_true_eq, decide_eq_false_iff_not, and_true, true_and, List.mem_cons, List.not_mem_nil, or_false, forall_eq, false_imp_iff, implies_true, List.nodup_nil, List.nodup_cons, not_false_eq_true, List.isEmpty_cons, List.isEmpty_nil, List.tail_cons, List.tail_nil])
theorem heads_let : ∀ h ∈ heads, (h.cps.toList.all fun k => decide (k ∈ lets)) = true := by decide +kernel
theorem tails_let : ∀ h ∈ tails, (h.cps.toList.all fun k => decide (k ∈ lets)) = true := by decide +kernel
theorem NameOk.nameW {k : Nat} {s : Str} (h : NameOk k s) (hk : k < 20) : nameW s = true := by
  obtain ⟨a, ha, b, hb, rfl⟩ := h
  have l1 := heads_len a ha
  have l2 := tails_len b hb
  have l3 : (ltr k).length = 1 := rfl
  unfold Pm.nameW
  rw [Bool.and_eq_true]
  refine ⟨decide_eq_true ?_, ?_⟩
  · rw [len_app, len_app]; omega
  · unfold allIn
    rw [cps_app, cps_app, List.all_append, List.all_append, heads_let a ha, tails_let b hb]
    simp only [Bool.true_and, Bool.and_true]
    show ([97 + k].all fun k => decide (k ∈ lets)) = true
    simp only [List.all_cons, List.all_nil, Bool.and_true]
    exact decide_eq_true (mem_lets.mpr (by omega))
theorem JobsOk.r {js : List Job} (h : JobsOk js) : ∀ j ∈ js, JobR j := fun j hj => by
  obtain ⟨k, hk, ek⟩ := List.getElem_of_mem hj
  have o := h.2 k j (by rw [List.getElem?_eq_getElem hk, ek])
  have := h.1
  exact ⟨o.nm.nameW (by omega), o.c0, o.cd, o.dl, o.w1, o.wl⟩
theorem JobR.s {j : Job} (o : JobR j) : JobS j := by
  have h := o.nm
  unfold Pm.nameW at h
  rw [Bool.and_eq_true] at h
  have := of_decide_eq_true h.1
  have := o.c0; have := o.cd; have := o.d1; have := o.w0; have := o.w1
  exact ⟨by omega, by omega, by omega, by omega⟩
theorem JobsOk.nodup {js : List Job} (h : JobsOk js) : (js.map Job.nm).Nodup := by
  rw [List.nodup_iff_pairwise_ne, List.pairwise_iff_getElem]
  intro i j hi hj hij
  rw [List.length_map] at hi hj
  rw [List.getElem_map, List.getElem_map]
  intro e
  have := h.inj (List.getElem?_eq_getElem hi) (List.getElem?_eq_getElem hj) e
  omega
theorem jobsT_len {js : List Job} (h : ∀ j ∈ js, JobS j) : (jobsT js).length ≤ js.length * 1200 := by
  have e : ∀ l : List Job, (∀ j ∈ l, JobS j) → ((l.map lineS).map fun s => s.cps.toList).flatten.length ≤ l.length * 1200 := fun l => by
    induction l with
    | nil => intro _; simp
    | cons j l ih =>
      intro h
      have := lineS_len (h j List.mem_cons_self)
      have := ih fun x hx => h x (List.mem_cons_of_mem _ hx)
      have e : (lineS j).cps.toList.length = (lineS j).length := by rw [Array.length_toList]; rfl
      simp only [List.map_cons, List.flatten_cons, List.length_append, List.length_cons]
      omega
  have : (jobsT js).length = (jobsT js).cps.toList.length := by rw [Array.length_toList]; rfl
  rw [this]
  unfold jobsT
  rw [join_tl]
  exact e js h
theorem sum_lineS : ∀ js : List Job, (∀ j ∈ js, JobS j) → ((js.map lineS).map (fun x => x.length)).sum + 0 ≤ js.length * 1200
  | [], _ => by simp
  | j :: l, h => by
    have := lineS_len (h j List.mem_cons_self)
    have := sum_lineS l fun x hx => h x (List.mem_cons_of_mem _ hx)
    simp only [List.map_cons, List.sum_cons, List.length_cons]
    omega
theorem sameOk_jobsT {l : List Job} (h : l.length ≤ 12) : sameOk 12 (.tup (l.map jbD)) := ⟨by rw [List.length_map]; omega, fun x hx => by
  obtain ⟨j, hj, rfl⟩ := List.mem_map.mp hx
  refine ⟨by simp, fun y hy => ?_⟩
  simp only [List.mem_cons, List.not_mem_nil, or_false] at hy
  rcases hy with rfl | rfl | rfl | rfl <;> trivial⟩
def B_law_1 : TSp :=
  (sSeq (sSet 3 (tMth "str" fJoin (tK (.str "")) (tAOne (tLc' (iAny (tNm 2)) (.nm 4) tYes' (tBin (opB .Add) (tBin (opB .Add) (tBin (opB .Add) (tBin (opB .Add) (tBin (opB .Add) (tBin (opB .Add) (tBin (opB .Add) (tIx (tNmC 4) (tK (.int 0))) (tK (.str " "))) (tCb (cD1 fStrI) (tAOne (tIx (tNmC 4) (tK (.int 1)))))) (tK (.str " "))) (tCb (cD1 fStrI) (tAOne (tIx (tNmC 4) (tK (.int 2)))))) (tK (.str " "))) (tCb (cD1 fStrI) (tAOne (tIx (tNmC 4) (tK (.int 3)))))) (tK (.str "\n"))) [4]))))
    (sRet (tAndV (tCall φ__law_same [false, false] [] (tACons (tCall φ_write_jobs [false] [] (tAOne (tNm 2))) (tAOne (tNm 3)))) (tCall φ__law_same [false, false] [] (tACons (tCall φ_read_jobs [false] [] (tAOne (tNm 3))) (tAOne (tNm 2)))))))
def B_law_2 : TSp :=
  (sSeq (sSet 2 (tCall φ__law_jobs [true, false] [] (tACons (tNm 1) (tAOne (tK (.int 12))))))
    B_law_1)
def T_law : TSp :=
  (sSeq (sSet 1 (tCall φ__law_pool [false] [] (tAOne (tNm 0))))
    B_law_2)
theorem sp_law (cs : List Ct) (R0 : Ct → List Ct → Prop) (E0 : Exn → List Ct → Prop) : fnLaw cs R0 E0 → fnOf 4 [] T_law cs R0 E0 := by
  rintro ⟨ns, rfl, hlen, hbits, h⟩
  rw [fnOf_eq]
  refine ⟨noOw _ rfl, ?_⟩
  unfold T_law
  walk_at "pm"
  refine ⟨ns, rfl, hlen, fun p hp => ?_⟩
  unfold B_law_2
  walk_at "pm"
  refine ⟨20000, 12, p, rfl, by omega, hp.mono (by decide), fun js p1 hjs hj12 hp1 => ?_⟩
  have hr := hjs.r
  have hs : ∀ j ∈ js, JobS j := fun j hj => (hr j hj).s
  walk_at "pm"
  unfold B_law_1
  walk_at "pm"
  refine lc_pure (f := jbD) (fun j => [D.str (lineS j)]) _ (fun j => j ∈ js) ?_ (fun _ => by simp) js [] (fun _ h => h) (line_small (by rw [List.length_nil]; omega)) ?_
  · intro j acc K hx hl hK
    have ejb : jbD j = .tup [.str j.nm, .int j.c, .int j.d, .int j.w] := rfl
    rw [ejb]
    walk_at "pm"
    have s := hs j hx
    have h0 := s.nm
    have hc : (Str.ofString (toString j.c)).length ≤ 61 := itS_len s.c
    have hd : (Str.ofString (toString j.d)).length ≤ 61 := itS_len s.d
    have hw : (Str.ofString (toString j.w)).length ≤ 61 := itS_len s.w
    have h1 : (Str.ofString " ").length = 1 := by decide +kernel
    have h2 : (Str.ofString "\n").length = 1 := by decide +kernel
    have k1 := log_of s.c
    have k2 := log_of s.d
    have k3 := log_of s.w
    refine ⟨line_small (by omega), by omega, line_small (by simp only [len_appS]; omega), line_small (by simp only [len_appS]; omega), by omega, line_small (by simp only [len_appS]; omega), line_small (by simp only [len_appS]; omega), by omega, line_small (by simp only [len_appS]; omega), line_small (by simp only [len_appS]; omega), hl, ?_⟩
    exact hK
  · walk_at "pm"
    rw [flat_strs, strs_map]
    walk_at "pm"
    have hz : (Str.ofString "").length = 0 := by decide +kernel
    have hlj := jobsT_len hs
    refine ⟨?_, js, rfl, by omega, hs, ?_⟩
    · rw [hz, Nat.mul_zero]
      exact Nat.le_trans (sum_lineS js hs) (by omega)
    walk_at "pm"
    refine same_eq rfl trivial ?_
    walk_at "pm"
    rw [show Txt.join (Str.ofString "") (List.map lineS js) = jobsT js from rfl]
    refine ⟨jobsT js, rfl, by omega, ?_, ?_⟩
    · rw [jobsT_sp hr, List.length_append, List.length_map]; simp; omega
    rw [readJ_jobs hr hj12 hjs.nodup]
    unfold rdJK
    walk_at "pm"
    refine same_eq rfl (sameOk_jobsT hj12) ?_
    exact h _
end Pm

namespace Pm
open PySem PySem.Spec PyProof.Rows L2
/-! ## the text -/
def topS (i : Nat) : Stmt := PySem.Challenge.pw_sparewatts_k02_job_texts.main.body.getD i (.Pass ⟨0, 0, 0, 0⟩)
abbrev s_is_name : Stmt := topS 6
theorem sc_is_name : FnScope ["word", "char"] ["word"] (defScope s_is_name) := ⟨rfl, rfl, rfl, by decide +kernel, rfl, by decide +kernel, by decide +kernel⟩
abbrev s_number_of : Stmt := topS 7
theorem sc_number_of : FnScope ["word", "most", "char"] ["word", "most"] (defScope s_number_of) := ⟨rfl, rfl, rfl, by decide +kernel, rfl, by decide +kernel, by decide +kernel⟩
abbrev s_split_lines : Stmt := topS 8
theorem sc_split_lines : FnScope ["text", "lines", "last"] ["text"] (defScope s_split_lines) := ⟨rfl, rfl, rfl, by decide +kernel, rfl, by decide +kernel, by decide +kernel⟩
abbrev s_is_job : Stmt := topS 13
theorem sc_is_job : FnScope ["name", "comes", "due", "work"] ["name", "comes", "due", "work"] (defScope s_is_job) := ⟨rfl, rfl, rfl, by decide +kernel, rfl, by decide +kernel, by decide +kernel⟩
abbrev s_write_jobs : Stmt := topS 14
theorem sc_write_jobs : FnScope ["jobs", "name", "comes", "due", "work"] ["jobs"] (defScope s_write_jobs) := ⟨rfl, rfl, rfl, by decide +kernel, rfl, by decide +kernel, by decide +kernel⟩
abbrev s_read_job : Stmt := topS 15
theorem sc_read_job : FnScope ["line", "words", "numbers", "word"] ["line"] (defScope s_read_job) := ⟨rfl, rfl, rfl, by decide +kernel, rfl, by decide +kernel, by decide +kernel⟩
abbrev s_read_jobs : Stmt := topS 16
theorem sc_read_jobs : FnScope ["text", "lines", "ended", "jobs", "number", "line", "job", "earlier"] ["text"] (defScope s_read_jobs) := ⟨rfl, rfl, rfl, by decide +kernel, rfl, by decide +kernel, by decide +kernel⟩
abbrev s__law_pool : Stmt := topS 18
theorem sc__law_pool : FnScope ["_law_script"] ["_law_script"] (defScope s__law_pool) := ⟨rfl, rfl, rfl, by decide +kernel, rfl, by decide +kernel, by decide +kernel⟩
abbrev s__law_draw : Stmt := topS 19
theorem sc__law_draw : FnScope ["_law_pool_here", "_law_many", "_law_found", "_law_cell", "_law_mixed"] ["_law_pool_here", "_law_many"] (defScope s__law_draw) := ⟨rfl, rfl, rfl, by decide +kernel, rfl, by decide +kernel, by decide +kernel⟩
abbrev s__law_same : Stmt := topS 20
theorem sc__law_same : FnScope ["_law_actual", "_law_due", "_law_k"] ["_law_actual", "_law_due"] (defScope s__law_same) := ⟨rfl, rfl, rfl, by decide +kernel, rfl, by decide +kernel, by decide +kernel⟩
abbrev s__law_name : Stmt := topS 21
theorem sc__law_name : FnScope ["_law_pool_here", "_law_index", "_law_letter", "_law_head"] ["_law_pool_here", "_law_index"] (defScope s__law_name) := ⟨rfl, rfl, rfl, by decide +kernel, rfl, by decide +kernel, by decide +kernel⟩
abbrev s__law_window : Stmt := topS 22
theorem sc__law_window : FnScope ["_law_pool_here", "_law_wide", "_law_comes"] ["_law_pool_here", "_law_wide"] (defScope s__law_window) := ⟨rfl, rfl, rfl, by decide +kernel, rfl, by decide +kernel, by decide +kernel⟩
abbrev s__law_jobs : Stmt := topS 23
theorem sc__law_jobs : FnScope ["_law_pool_here", "_law_most", "_law_wide", "_law_jobs_here", "_law_k", "_law_comes", "_law_due", "_law_work", "_law_other"] ["_law_pool_here", "_law_most"] (defScope s__law_jobs) := ⟨rfl, rfl, rfl, by decide +kernel, rfl, by decide +kernel, by decide +kernel⟩
abbrev s_law : Stmt := topS 24
theorem sc_law : FnScope ["_law_script", "_law_pool_here", "_law_jobs_here", "_law_text", "_law_job"] ["_law_script"] (defScope s_law) := ⟨rfl, rfl, rfl, by decide +kernel, rfl, by decide +kernel, by decide +kernel⟩
section
variable {P : Program} {w : World} {K : PySem.W.Frag} {cls : Str → Option Addr} {mg : Str → Option Value} {base : Heap}
set_option maxHeartbeats 4000000 in
theorem ok_is_name {f : Addr} {fd : FuncData} (F : Fun K "is_name" "is_name" s_is_name f fd) (m_len : mg "len" = none) (m_all : mg "all" = none) (C_LETTERS : ∃ (v : V) (u : Value), mg "LETTERS" = some u ∧ RelV v u ∧ ∀ H A, Rp K H A (.str "abcdefghijklmnopqrstuvwxyz") v) : FnOk P w K mg base CX0 (1) f fd ["word"] (spOf K cls 1 φ_is_name) :=
  fn_ok (ps := ["word"]) (k := 0) (m := 1) (nb := 1) (lock := []) (T := T_is_name) F sc_is_name rfl sp_is_name (fun c cdv A outer s H E hK hcls hlk hnb hr => by
    subst hK hcls
    have hu : (A.deeper (envOfC "is_name" (defScope s_is_name) s.heap.objs.size f cdv)).units + 65 < cLine := by have := hr.un; omega
    have B : ∀ i, decide (i < 1) = true → i < c.nb := fun i h => by rw [hnb]; exact of_decide_eq_true h
    have L : ∀ j, decide (j ∉ ([] : List Nat)) = true → j ∉ c.lock := fun j h => by rw [hlk]; exact of_decide_eq_true h
    have W : ∀ l : List Nat, decide (∀ i ∈ l, 1 ≤ i) = true → ∀ i ∈ l, c.nb ≤ i := fun l h => by rw [hnb]; exact of_decide_eq_true h
    have LL : ∀ l : List Nat, decide (∀ i ∈ l, i ∉ ([] : List Nat)) = true → ∀ i ∈ l, i ∉ c.lock := fun l h => by rw [hlk]; exact of_decide_eq_true h
    have nd := sc_is_name.nd
    exact (ss_one (s_ret (p_and (p_chain hu p_int (p_len m_len (a_one (p_nm 0 (B 0 rfl)))) p_int) (p_one (p_cb (cr_all rfl) (all_ok rfl) m_all (a_one (p_lc (own := [("char", 1)]) (g := .nm 1)  rfl nd (i_strS (p_nm 0 (B 0 rfl))) (blkOk_by (N := ["word", "char"]) (sc := defScope s_is_name) (by decide +kernel)) (W _ rfl) (LL _ rfl) (by decide) (fun _ _ _ _ _ => (g_nm 1 nd (L 1 rfl))) (fun _ _ _ _ _ => ts_nil) (fun _ _ _ _ _ => (p_cmp hu (p_nmC 1) (p_const C_LETTERS)))))))))))
set_option maxHeartbeats 4000000 in
theorem ok_number_of {f : Addr} {fd : FuncData} (F : Fun K "number_of" "number_of" s_number_of f fd) (m_len : mg "len" = none) (m_all : mg "all" = none) (C_DIGITS : ∃ (v : V) (u : Value), mg "DIGITS" = some u ∧ RelV v u ∧ ∀ H A, Rp K H A (.str "0123456789") v) (m_int : mg "int" = none) : FnOk P w K mg base CX0 (1) f fd ["word", "most"] (spOf K cls 2 φ_number_of) :=
  fn_ok (ps := ["word", "most"]) (k := 0) (m := 1) (nb := 2) (lock := []) (T := T_number_of) F sc_number_of rfl sp_number_of (fun c cdv A outer s H E hK hcls hlk hnb hr => by
    subst hK hcls
    have hu : (A.deeper (envOfC "number_of" (defScope s_number_of) s.heap.objs.size f cdv)).units + 65 < cLine := by have := hr.un; omega
    have B : ∀ i, decide (i < 2) = true → i < c.nb := fun i h => by rw [hnb]; exact of_decide_eq_true h
    have L : ∀ j, decide (j ∉ ([] : List Nat)) = true → j ∉ c.lock := fun j h => by rw [hlk]; exact of_decide_eq_true h
    have W : ∀ l : List Nat, decide (∀ i ∈ l, 2 ≤ i) = true → ∀ i ∈ l, c.nb ≤ i := fun l h => by rw [hnb]; exact of_decide_eq_true h
    have LL : ∀ l : List Nat, decide (∀ i ∈ l, i ∉ ([] : List Nat)) = true → ∀ i ∈ l, i ∉ c.lock := fun l h => by rw [hlk]; exact of_decide_eq_true h
    have nd := sc_number_of.nd
    exact (ss_cons (s_if (t_pw (t_or (t_not (t_chain hu p_int (p_len m_len (a_one (p_nm 0 (B 0 rfl)))) (p_nm 1 (B 1 rfl)))) (t_or1 (t_not (t_tru (p_cb (cr_all rfl) (all_ok rfl) m_all (a_one (p_lc (own := [("char", 2)]) (g := .nm 2)  rfl nd (i_strS (p_nm 0 (B 0 rfl))) (blkOk_by (N := ["word", "most", "char"]) (sc := defScope s_number_of) (by decide +kernel)) (W _ rfl) (LL _ rfl) (by decide) (fun _ _ _ _ _ => (g_nm 2 nd (L 2 rfl))) (fun _ _ _ _ _ => ts_nil) (fun _ _ _ _ _ => (p_cmp hu (p_nmC 2) (p_const C_DIGITS))))))))))) (ss_one (s_ret p_non)) ss_nil)
      (ss_cons (s_if (t_pw (t_and (t_cmp hu (p_ix (p_nm 0 (B 0 rfl)) p_int) p_str) (t_and1 (t_cmp hu (p_nm 0 (B 0 rfl)) p_str)))) (ss_one (s_ret p_non)) ss_nil)
      (ss_one (s_ret (p_cty call_int_str intS_ok m_int (a_one (p_nm 0 (B 0 rfl)))))))))
set_option maxHeartbeats 4000000 in
theorem ok_split_lines {f : Addr} {fd : FuncData} (F : Fun K "split_lines" "split_lines" s_split_lines f fd)  : FnOk P w K mg base CX0 (1) f fd ["text"] (spOf K cls 1 φ_split_lines) :=
  fn_ok (ps := ["text"]) (k := 0) (m := 2) (nb := 3) (lock := []) (T := T_split_lines) F sc_split_lines rfl sp_split_lines (fun c cdv A outer s H E hK hcls hlk hnb hr => by
    subst hK hcls
    have hu : (A.deeper (envOfC "split_lines" (defScope s_split_lines) s.heap.objs.size f cdv)).units + 65 < cLine := by have := hr.un; omega
    have B : ∀ i, decide (i < 3) = true → i < c.nb := fun i h => by rw [hnb]; exact of_decide_eq_true h
    have L : ∀ j, decide (j ∉ ([] : List Nat)) = true → j ∉ c.lock := fun j h => by rw [hlk]; exact of_decide_eq_true h
    have W : ∀ l : List Nat, decide (∀ i ∈ l, 3 ≤ i) = true → ∀ i ∈ l, c.nb ≤ i := fun l h => by rw [hnb]; exact of_decide_eq_true h
    have LL : ∀ l : List Nat, decide (∀ i ∈ l, i ∉ ([] : List Nat)) = true → ∀ i ∈ l, i ∉ c.lock := fun l h => by rw [hlk]; exact of_decide_eq_true h
    have nd := sc_split_lines.nd
    exact (ss_cons (s_star 1 2 rfl nd (p_mth PySem.F.plainAttrs_str PySem.F.slot_str_split PySem.F.type_str_split mt_split split_ok (p_nm 0 (B 0 rfl)) (a_one p_str)) (L 1 rfl) (L 2 rfl))
      (ss_cons (s_if (t_cmp hu (p_nm 2 (B 2 rfl)) p_str) (ss_one (s_ret (p_tup (a_cons (p_nm 1 (B 1 rfl)) (a_one p_bl))))) ss_nil)
      (ss_one (s_ret (p_tup (a_cons (p_op (p_nm 1 (B 1 rfl)) (p_lst (a_one (p_nm 2 (B 2 rfl))))) (a_one p_bl))))))))
set_option maxHeartbeats 4000000 in
theorem ok_is_job {f : Addr} {fd : FuncData} (F : Fun K "is_job" "is_job" s_is_job f fd) (D_is_name : DefOk P w K cls mg base "is_name" 1 [] 1 φ_is_name) (C_LATEST : ∃ (v : V) (u : Value), mg "LATEST" = some u ∧ RelV v u ∧ ∀ H A, Rp K H A (.int 10000) v) (C_MOST_WORK : ∃ (v : V) (u : Value), mg "MOST_WORK" = some u ∧ RelV v u ∧ ∀ H A, Rp K H A (.int 10000) v) : FnOk P w K mg base CX0 (2) f fd ["name", "comes", "due", "work"] (spOf K cls 4 φ_is_job) :=
  fn_ok (ps := ["name", "comes", "due", "work"]) (k := 1) (m := 0) (nb := 4) (lock := []) (T := T_is_job) F sc_is_job rfl sp_is_job (fun c cdv A outer s H E hK hcls hlk hnb hr => by
    subst hK hcls
    have hu : (A.deeper (envOfC "is_job" (defScope s_is_job) s.heap.objs.size f cdv)).units + 65 < cLine := by have := hr.un; omega
    have B : ∀ i, decide (i < 4) = true → i < c.nb := fun i h => by rw [hnb]; exact of_decide_eq_true h
    have L : ∀ j, decide (j ∉ ([] : List Nat)) = true → j ∉ c.lock := fun j h => by rw [hlk]; exact of_decide_eq_true h
    have W : ∀ l : List Nat, decide (∀ i ∈ l, 4 ≤ i) = true → ∀ i ∈ l, c.nb ≤ i := fun l h => by rw [hnb]; exact of_decide_eq_true h
    have LL : ∀ l : List Nat, decide (∀ i ∈ l, i ∉ ([] : List Nat)) = true → ∀ i ∈ l, i ∉ c.lock := fun l h => by rw [hlk]; exact of_decide_eq_true h
    have nd := sc_is_job.nd
    exact (ss_one (s_ret (p_and (p_call [false] D_is_name hr (by omega) (a_one (p_nm 0 (B 0 rfl)))) (p_and (p_chain3 p_int (p_nm 1 (B 1 rfl)) (p_nm 2 (B 2 rfl)) (p_const C_LATEST)) (p_one (p_chain hu p_int (p_nm 3 (B 3 rfl)) (p_const C_MOST_WORK))))))))
set_option maxHeartbeats 4000000 in
theorem ok_write_jobs {f : Addr} {fd : FuncData} (F : Fun K "write_jobs" "write_jobs" s_write_jobs f fd)  : FnOk P w K mg base CX0 (1) f fd ["jobs"] (spOf K cls 1 φ_write_jobs) :=
  fn_ok (ps := ["jobs"]) (k := 0) (m := 4) (nb := 1) (lock := []) (T := T_write_jobs) F sc_write_jobs rfl sp_write_jobs (fun c cdv A outer s H E hK hcls hlk hnb hr => by
    subst hK hcls
    have hu : (A.deeper (envOfC "write_jobs" (defScope s_write_jobs) s.heap.objs.size f cdv)).units + 65 < cLine := by have := hr.un; omega
    have B : ∀ i, decide (i < 1) = true → i < c.nb := fun i h => by rw [hnb]; exact of_decide_eq_true h
    have L : ∀ j, decide (j ∉ ([] : List Nat)) = true → j ∉ c.lock := fun j h => by rw [hlk]; exact of_decide_eq_true h
    have W : ∀ l : List Nat, decide (∀ i ∈ l, 1 ≤ i) = true → ∀ i ∈ l, c.nb ≤ i := fun l h => by rw [hnb]; exact of_decide_eq_true h
    have LL : ∀ l : List Nat, decide (∀ i ∈ l, i ∉ ([] : List Nat)) = true → ∀ i ∈ l, i ∉ c.lock := fun l h => by rw [hlk]; exact of_decide_eq_true h
    have nd := sc_write_jobs.nd
    exact (ss_one (s_ret (p_mth PySem.F.plainAttrs_str PySem.F.slot_str_join PySem.F.type_str_join mt_join (join_ok rfl) p_str (a_one (p_lc (own := [("name", 1), ("comes", 2), ("due", 3), ("work", 4)]) (g := .tp [.nm 1, .nm 2, .nm 3, .nm 4])  rfl nd (i_any (p_nm 0 (B 0 rfl))) (blkOk_by (N := ["jobs", "name", "comes", "due", "work"]) (sc := defScope s_write_jobs) (by decide +kernel)) (W _ rfl) (LL _ rfl) (by decide) (fun _ _ _ _ _ => (g_tup rfl (g_cons (g_nm 1 nd (L 1 rfl)) (g_cons (g_nm 2 nd (L 2 rfl)) (g_cons (g_nm 3 nd (L 3 rfl)) (g_cons (g_nm 4 nd (L 4 rfl)) g_nil)))))) (fun _ _ _ _ _ => ts_nil) (fun _ _ _ _ _ => (p_joined (.cons (p_fmt (p_nmC 1)) (.cons p_str (.cons (p_fmt (p_nmC 2)) (.cons p_str (.cons (p_fmt (p_nmC 3)) (.cons p_str (.cons (p_fmt (p_nmC 4)) (.cons p_str .nil))))))))))))))))
set_option maxHeartbeats 4000000 in
theorem ok_read_job {f : Addr} {fd : FuncData} (F : Fun K "read_job" "read_job" s_read_job f fd) (m_len : mg "len" = none) (D_number_of : DefOk P w K cls mg base "number_of" 2 [] 1 φ_number_of) (D_is_job : DefOk P w K cls mg base "is_job" 4 [] 2 φ_is_job) : FnOk P w K mg base CX0 (3) f fd ["line"] (spOf K cls 1 φ_read_job) :=
  fn_ok (ps := ["line"]) (k := 2) (m := 3) (nb := 3) (lock := []) (T := T_read_job) F sc_read_job rfl sp_read_job (fun c cdv A outer s H E hK hcls hlk hnb hr => by
    subst hK hcls
    have hu : (A.deeper (envOfC "read_job" (defScope s_read_job) s.heap.objs.size f cdv)).units + 65 < cLine := by have := hr.un; omega
    have B : ∀ i, decide (i < 3) = true → i < c.nb := fun i h => by rw [hnb]; exact of_decide_eq_true h
    have L : ∀ j, decide (j ∉ ([] : List Nat)) = true → j ∉ c.lock := fun j h => by rw [hlk]; exact of_decide_eq_true h
    have W : ∀ l : List Nat, decide (∀ i ∈ l, 3 ≤ i) = true → ∀ i ∈ l, c.nb ≤ i := fun l h => by rw [hnb]; exact of_decide_eq_true h
    have LL : ∀ l : List Nat, decide (∀ i ∈ l, i ∉ ([] : List Nat)) = true → ∀ i ∈ l, i ∉ c.lock := fun l h => by rw [hlk]; exact of_decide_eq_true h
    have nd := sc_read_job.nd
    exact (ss_cons (s_set 1 nd (p_mth PySem.F.plainAttrs_str PySem.F.slot_str_split PySem.F.type_str_split mt_split split_ok (p_nm 0 (B 0 rfl)) (a_one p_str)) (L 1 rfl))
      (ss_cons (s_if (t_cmp hu (p_len m_len (a_one (p_nm 1 (B 1 rfl)))) p_int) (ss_one (s_ret p_non)) ss_nil)
      (ss_cons (s_setLcB (j := 2) (own := [("word", 3)]) (g := .nm 3) rfl nd (L 2 rfl) (i_any (p_slice (p_nm 1 (B 1 rfl)) (o_some p_int) o_none)) (blkOk_by (N := ["line", "words", "numbers", "word"]) (sc := defScope s_read_job) (by decide +kernel)) (W _ rfl) (LL _ rfl) (by decide) (fun _ _ _ _ _ => (g_nm 3 nd (L 3 rfl))) (fun _ _ _ _ _ => ts_nil) (fun _ _ _ _ _ => (p_call [false, false] D_number_of hr (by omega) (a_cons (p_nmC 3) (a_one p_int)))))
      (ss_cons (s_if (t_pw (t_or (t_cmp hu p_non (p_nm 2 (B 2 rfl))) (t_or1 (t_not (t_tru (p_callS [false, false, false, false] D_is_job hr (by omega) (a_cons (p_ix (p_nm 1 (B 1 rfl)) p_int) (a_star (p_nm 2 (B 2 rfl)) a_nil)))))))) (ss_one (s_ret p_non)) ss_nil)
      (ss_one (s_ret (p_tup (a_cons (p_ix (p_nm 1 (B 1 rfl)) p_int) (a_star (p_nm 2 (B 2 rfl)) a_nil))))))))))
set_option maxHeartbeats 4000000 in
theorem ok_read_jobs {f : Addr} {fd : FuncData} (F : Fun K "read_jobs" "read_jobs" s_read_jobs f fd) (D_split_lines : DefOk P w K cls mg base "split_lines" 1 [] 1 φ_split_lines) (m_enumerate : mg "enumerate" = none) (D_read_job : DefOk P w K cls mg base "read_job" 1 [] 3 φ_read_job) (m_len : mg "len" = none) (C_MOST_JOBS : ∃ (v : V) (u : Value), mg "MOST_JOBS" = some u ∧ RelV v u ∧ ∀ H A, Rp K H A (.int 12) v) (E_BadText : ExcOk P K cls mg "BadText" "line") (m_tuple : mg "tuple" = none) : FnOk P w K mg base (L2N.CX P w) (4) f fd ["text"] (spX K cls 1 φ_read_jobs) :=
  fnX_ok (ps := ["text"]) (k := 3) (m := 7) (nb := 7) (lock := []) (T := T_read_jobs) F sc_read_jobs rfl sp_read_jobs (fun c cdv A outer s H E hK hcls hlk hnb hr => by
    subst hK hcls
    have hu : (A.deeper (envOfC "read_jobs" (defScope s_read_jobs) s.heap.objs.size f cdv)).units + 65 < cLine := by have := hr.un; omega
    have B : ∀ i, decide (i < 7) = true → i < c.nb := fun i h => by rw [hnb]; exact of_decide_eq_true h
    have L : ∀ j, decide (j ∉ ([] : List Nat)) = true → j ∉ c.lock := fun j h => by rw [hlk]; exact of_decide_eq_true h
    have W : ∀ l : List Nat, decide (∀ i ∈ l, 7 ≤ i) = true → ∀ i ∈ l, c.nb ≤ i := fun l h => by rw [hnb]; exact of_decide_eq_true h
    have LL : ∀ l : List Nat, decide (∀ i ∈ l, i ∉ ([] : List Nat)) = true → ∀ i ∈ l, i ∉ c.lock := fun l h => by rw [hlk]; exact of_decide_eq_true h
    have nd := sc_read_jobs.nd
    exact (x_cons (x_lift (s_asg (p_call [false] D_split_lines hr (by omega) (a_one (p_nm 0 (B 0 rfl)))) (g_tup rfl (g_cons (g_nm 1 nd (L 1 rfl)) (g_cons (g_nm 2 nd (L 2 rfl)) g_nil)))))
      (x_cons (x_lift (s_set 3 nd (p_lst a_nil) (L 3 rfl)))
      (x_cons (x_for (passes_of rfl) rfl (i_enS (k := 1) m_enumerate (p_nm 1 (B 1 rfl))) (g_tup rfl (g_cons (g_nm 4 nd (L 4 rfl)) (g_cons (g_nm 5 nd (L 5 rfl)) g_nil))) (x_cons (x_lift (s_set 6 nd (p_call [false] D_read_job hr (by omega) (a_one (p_nm 5 (B 5 rfl)))) (L 6 rfl)))
      (x_cons (x_if (t_pw (t_or (t_cmp hu (p_nm 6 (B 6 rfl)) p_non) (t_or (t_cmp hu (p_len m_len (a_one (p_nm 3 (B 3 rfl)))) (p_const C_MOST_JOBS)) (t_or1 (t_cmp hu (p_ix (p_nm 6 (B 6 rfl)) p_int) (p_lcO 3 (own := [("earlier", 7)]) (g := .nm 7) (B 3 rfl) rfl nd (blkOk_by (N := ["text", "lines", "ended", "jobs", "number", "line", "job", "earlier"]) (sc := defScope s_read_jobs) (by decide +kernel)) (W _ rfl) (LL _ rfl) (by decide) (fun _ _ _ _ _ => (g_nm 7 nd (L 7 rfl))) (fun _ _ _ _ _ => ts_nil) (fun _ _ _ _ _ => (p_ix (p_nmC 7) p_int)))))))) (x_one (x_raise E_BadText rfl hr (by omega) (a_one (p_nm 4 (B 4 rfl))))) x_nil)
      (x_one (x_lift (s_exp (p_mu 3 PySem.F.plainAttrs_list PySem.F.slot_list_append PySem.F.type_list_append mt_append app_ok2 (a_one (p_nm 6 (B 6 rfl))))))))))
      (x_cons (x_if (t_not (t_tru (p_nm 2 (B 2 rfl)))) (x_one (x_raise E_BadText rfl hr (by omega) (a_one (p_len m_len (a_one (p_nm 1 (B 1 rfl))))))) x_nil)
      (x_one (x_lift (s_ret (p_cty call_tuple_of (tuple_ok rfl) m_tuple (a_one (p_nm 3 (B 3 rfl))))))))))))
set_option maxHeartbeats 4000000 in
theorem ok__law_pool {f : Addr} {fd : FuncData} (F : Fun K "_law_pool" "_law_pool" s__law_pool f fd) (m_list : mg "list" = none) : FnOk P w K mg base CX0 (1) f fd ["_law_script"] (spOf K cls 1 φ__law_pool) :=
  fn_ok (ps := ["_law_script"]) (k := 0) (m := 0) (nb := 1) (lock := []) (T := T__law_pool) F sc__law_pool rfl sp__law_pool (fun c cdv A outer s H E hK hcls hlk hnb hr => by
    subst hK hcls
    have hu : (A.deeper (envOfC "_law_pool" (defScope s__law_pool) s.heap.objs.size f cdv)).units + 65 < cLine := by have := hr.un; omega
    have B : ∀ i, decide (i < 1) = true → i < c.nb := fun i h => by rw [hnb]; exact of_decide_eq_true h
    have L : ∀ j, decide (j ∉ ([] : List Nat)) = true → j ∉ c.lock := fun j h => by rw [hlk]; exact of_decide_eq_true h
    have W : ∀ l : List Nat, decide (∀ i ∈ l, 1 ≤ i) = true → ∀ i ∈ l, c.nb ≤ i := fun l h => by rw [hnb]; exact of_decide_eq_true h
    have LL : ∀ l : List Nat, decide (∀ i ∈ l, i ∉ ([] : List Nat)) = true → ∀ i ∈ l, i ∉ c.lock := fun l h => by rw [hlk]; exact of_decide_eq_true h
    have nd := sc__law_pool.nd
    exact (ss_one (s_ret (p_lst (a_cons (p_cty call_list_of (list_ok rfl) m_list (a_one (p_nm 0 (B 0 rfl)))) (a_cons p_int (a_cons p_int (a_cons p_int (a_one p_int)))))))))
set_option maxHeartbeats 4000000 in
theorem ok__law_draw {f : Addr} {fd : FuncData} (F : Fun K "_law_draw" "_law_draw" s__law_draw f fd) (m_int : mg "int" = none) (m_len : mg "len" = none) (m_abs : mg "abs" = none) : FnOk P w K mg base CX0 (1) f fd ["_law_pool_here", "_law_many"] (spOf K cls 2 φ__law_draw) :=
  fn_ok (ps := ["_law_pool_here", "_law_many"]) (k := 0) (m := 3) (nb := 5) (lock := [0]) (T := T__law_draw) F sc__law_draw rfl sp__law_draw (fun c cdv A outer s H E hK hcls hlk hnb hr => by
    subst hK hcls
    have hu : (A.deeper (envOfC "_law_draw" (defScope s__law_draw) s.heap.objs.size f cdv)).units + 65 < cLine := by have := hr.un; omega
    have B : ∀ i, decide (i < 5) = true → i < c.nb := fun i h => by rw [hnb]; exact of_decide_eq_true h
    have L : ∀ j, decide (j ∉ ([0] : List Nat)) = true → j ∉ c.lock := fun j h => by rw [hlk]; exact of_decide_eq_true h
    have W : ∀ l : List Nat, decide (∀ i ∈ l, 5 ≤ i) = true → ∀ i ∈ l, c.nb ≤ i := fun l h => by rw [hnb]; exact of_decide_eq_true h
    have LL : ∀ l : List Nat, decide (∀ i ∈ l, i ∉ ([0] : List Nat)) = true → ∀ i ∈ l, i ∉ c.lock := fun l h => by rw [hlk]; exact of_decide_eq_true h
    have nd := sc__law_draw.nd
    exact (ss_cons (s_if (t_cmp hu (p_ix (p_nm 0 (B 0 rfl)) p_int) p_int) (ss_cons (s_set 2 nd (p_op (p_cty call_int1 int_ok m_int (a_one (p_ix (p_nm 0 (B 0 rfl)) p_int))) (p_nm 1 (B 1 rfl))) (L 2 rfl))
      (ss_cons (s_sub 0 p_int (p_op (p_ix (p_nm 0 (B 0 rfl)) p_int) (p_nm 1 (B 1 rfl))))
      (ss_one (s_ret (p_nm 2 (B 2 rfl)))))) ss_nil)
      (ss_cons (s_if (t_pw (t_and (t_cmp hu (p_op (p_cty call_int1 int_ok m_int (a_one (p_ix (p_nm 0 (B 0 rfl)) p_int))) p_int) p_int) (t_and1 (t_cmp hu (p_ix (p_nm 0 (B 0 rfl)) p_int) (p_len m_len (a_one (p_ix (p_nm 0 (B 0 rfl)) p_int))))))) (ss_cons (s_set 3 nd (p_cb call_abs abs_ok m_abs (a_one (p_ix (p_ix (p_nm 0 (B 0 rfl)) p_int) (p_ix (p_nm 0 (B 0 rfl)) p_int)))) (L 3 rfl))
      (ss_cons (s_sub 0 p_int (p_op (p_ix (p_nm 0 (B 0 rfl)) p_int) p_int))
      (ss_cons (s_if (t_cmp hu (p_nm 3 (B 3 rfl)) (p_op p_int p_int)) (ss_cons (s_sub 0 p_int (p_op (p_nm 3 (B 3 rfl)) (p_nm 1 (B 1 rfl))))
      (ss_one (s_ret (p_op (p_cty call_int1 int_ok m_int (a_one (p_nm 3 (B 3 rfl)))) (p_nm 1 (B 1 rfl)))))) ss_nil)
      (ss_one (s_sub 0 p_int (p_nm 3 (B 3 rfl))))))) ss_nil)
      (ss_cons (s_sub 0 p_int (p_op (p_ix (p_nm 0 (B 0 rfl)) p_int) p_int))
      (ss_cons (s_set 4 nd (p_op (p_cty call_int1 int_ok m_int (a_one (p_op (p_op (p_op (p_ix (p_nm 0 (B 0 rfl)) p_int) p_int) (p_op (p_ix (p_nm 0 (B 0 rfl)) p_int) p_int)) p_int))) p_int) (L 4 rfl))
      (ss_cons (s_set 4 nd (p_op (p_cty call_int1 int_ok m_int (a_one (p_op (p_op (p_nm 4 (B 4 rfl)) (p_nm 4 (B 4 rfl))) (p_op (p_ix (p_nm 0 (B 0 rfl)) p_int) p_int)))) p_int) (L 4 rfl))
      (ss_one (s_ret (p_op (p_cty call_int1 int_ok m_int (a_one (p_nm 4 (B 4 rfl)))) (p_nm 1 (B 1 rfl)))))))))))
set_option maxHeartbeats 4000000 in
theorem ok__law_same {f : Addr} {fd : FuncData} {k : Nat} {φr φ' : Fn} (hφ : ∀ cs R0 E0, φ' cs R0 E0 → fnOf 1 [] (T__law_same φr) cs R0 E0) (F : Fun K "_law_same" "_law_same" s__law_same f fd) (m_isinstance : mg "isinstance" = none) (m_tuple : mg "tuple" = none) (m_len : mg "len" = none) (m_range : mg "range" = none) (D__law_same : DefOk P w K cls mg base "_law_same" 2 [] k φr) (m_str : mg "str" = none) (m_int : mg "int" = none) (m_bool : mg "bool" = none) : FnOk P w K mg base CX0 (k + 1) f fd ["_law_actual", "_law_due"] (spOf K cls 2 φ') :=
  fn_ok (ps := ["_law_actual", "_law_due"]) (k := k) (m := 1) (nb := 2) (lock := []) (T := T__law_same φr) F sc__law_same rfl hφ (fun c cdv A outer s H E hK hcls hlk hnb hr => by
    subst hK hcls
    have hu : (A.deeper (envOfC "_law_same" (defScope s__law_same) s.heap.objs.size f cdv)).units + 65 < cLine := by have := hr.un; omega
    have B : ∀ i, decide (i < 2) = true → i < c.nb := fun i h => by rw [hnb]; exact of_decide_eq_true h
    have L : ∀ j, decide (j ∉ ([] : List Nat)) = true → j ∉ c.lock := fun j h => by rw [hlk]; exact of_decide_eq_true h
    have W : ∀ l : List Nat, decide (∀ i ∈ l, 2 ≤ i) = true → ∀ i ∈ l, c.nb ≤ i := fun l h => by rw [hnb]; exact of_decide_eq_true h
    have LL : ∀ l : List Nat, decide (∀ i ∈ l, i ∉ ([] : List Nat)) = true → ∀ i ∈ l, i ∉ c.lock := fun l h => by rw [hlk]; exact of_decide_eq_true h
    have nd := sc__law_same.nd
    exact (ss_cons (s_if (t_tru (p_isi m_isinstance m_tuple (p_nm 1 (B 1 rfl)))) (ss_cons (s_if (t_pw (t_or (t_not (t_tru (p_isi m_isinstance m_tuple (p_nm 0 (B 0 rfl))))) (t_or1 (t_cmp hu (p_len m_len (a_one (p_nm 0 (B 0 rfl)))) (p_len m_len (a_one (p_nm 1 (B 1 rfl)))))))) (ss_one (s_ret p_bl)) ss_nil)
      (ss_one (s_ret (p_cmp hu (p_len m_len (a_one (p_lc (own := [("_law_k", 2)]) (g := .nm 2)  rfl nd (i_rng1 m_range (a_one (p_len m_len (a_one (p_nm 1 (B 1 rfl)))))) (blkOk_by (N := ["_law_actual", "_law_due", "_law_k"]) (sc := defScope s__law_same) (by decide +kernel)) (W _ rfl) (LL _ rfl) (by decide) (fun _ _ _ _ _ => (g_nm 2 nd (L 2 rfl))) (fun _ _ _ _ _ => (ts_one (t_not (t_tru (p_call [false, false] D__law_same hr (by omega) (a_cons (p_ix (p_nm 0 (B 0 rfl)) (p_nmC 2)) (a_one (p_ix (p_nm 1 (B 1 rfl)) (p_nmC 2))))))))) (fun _ _ _ _ _ => (p_nmC 2))))) p_int)))) ss_nil)
      (ss_cons (s_if (t_cmp hu (p_nm 1 (B 1 rfl)) p_non) (ss_one (s_ret (p_cmp hu (p_nm 0 (B 0 rfl)) p_non))) ss_nil)
      (ss_cons (s_if (t_tru (p_isi m_isinstance m_str (p_nm 1 (B 1 rfl)))) (ss_one (s_ret (p_and (p_isi m_isinstance m_str (p_nm 0 (B 0 rfl))) (p_one (p_cmp hu (p_nm 0 (B 0 rfl)) (p_nm 1 (B 1 rfl))))))) ss_nil)
      (ss_one (s_ret (p_and (p_isi m_isinstance m_int (p_nm 0 (B 0 rfl))) (p_and (p_not (p_isi m_isinstance m_bool (p_nm 0 (B 0 rfl)))) (p_one (p_cmp hu (p_nm 0 (B 0 rfl)) (p_nm 1 (B 1 rfl))))))))))))
theorem okN__law_same {f : Addr} {fd : FuncData} (F : Fun K "_law_same" "_law_same" s__law_same f fd) (hm : mg "_law_same" = some (.ref f)) (hb : Binds K fd ["_law_actual", "_law_due"] []) (m_isinstance : mg "isinstance" = none) (m_tuple : mg "tuple" = none) (m_len : mg "len" = none) (m_range : mg "range" = none) (m_str : mg "str" = none) (m_int : mg "int" = none) (m_bool : mg "bool" = none) : ∀ n : Nat, DefOk P w K cls mg base "_law_same" 2 [] n (φ__law_sameN n)
  | 0 => (DefOk.none hm F.kp hb).imp fun cs R0 E0 h => same_zero h
  | n + 1 => by
    have ih := okN__law_same F hm hb m_isinstance m_tuple m_len m_range m_str m_int m_bool n
    exact DefOk.mk' hm F.kp hb (ok__law_same (sp__law_same n) F m_isinstance m_tuple m_len m_range ih m_str m_int m_bool) rfl
set_option maxHeartbeats 4000000 in
theorem ok__law_name {f : Addr} {fd : FuncData} (F : Fun K "_law_name" "_law_name" s__law_name f fd) (D__law_draw : DefOk P w K cls mg base "_law_draw" 2 [] 1 φ__law_draw) : FnOk P w K mg base CX0 (2) f fd ["_law_pool_here", "_law_index"] (spOf K cls 2 φ__law_name) :=
  fn_ok (ps := ["_law_pool_here", "_law_index"]) (k := 1) (m := 2) (nb := 4) (lock := [0]) (T := T__law_name) F sc__law_name rfl sp__law_name (fun c cdv A outer s H E hK hcls hlk hnb hr => by
    subst hK hcls
    have hu : (A.deeper (envOfC "_law_name" (defScope s__law_name) s.heap.objs.size f cdv)).units + 65 < cLine := by have := hr.un; omega
    have B : ∀ i, decide (i < 4) = true → i < c.nb := fun i h => by rw [hnb]; exact of_decide_eq_true h
    have L : ∀ j, decide (j ∉ ([0] : List Nat)) = true → j ∉ c.lock := fun j h => by rw [hlk]; exact of_decide_eq_true h
    have W : ∀ l : List Nat, decide (∀ i ∈ l, 4 ≤ i) = true → ∀ i ∈ l, c.nb ≤ i := fun l h => by rw [hnb]; exact of_decide_eq_true h
    have LL : ∀ l : List Nat, decide (∀ i ∈ l, i ∉ ([0] : List Nat)) = true → ∀ i ∈ l, i ∉ c.lock := fun l h => by rw [hlk]; exact of_decide_eq_true h
    have nd := sc__law_name.nd
    exact (ss_cons (s_set 2 nd (p_ix p_str (p_nm 1 (B 1 rfl))) (L 2 rfl))
      (ss_cons (s_set 3 nd (p_ix (p_lst (a_cons p_str (a_cons p_str (a_cons p_str (a_one p_str))))) (p_call [true, false] D__law_draw hr (by omega) (a_cons (p_nm 0 (B 0 rfl)) (a_one p_int)))) (L 3 rfl))
      (ss_one (s_ret (p_op (p_op (p_nm 3 (B 3 rfl)) (p_nm 2 (B 2 rfl))) (p_ix (p_lst (a_cons p_str (a_cons p_str (a_one p_str)))) (p_call [true, false] D__law_draw hr (by omega) (a_cons (p_nm 0 (B 0 rfl)) (a_one p_int))))))))))
set_option maxHeartbeats 4000000 in
theorem ok__law_window {f : Addr} {fd : FuncData} (F : Fun K "_law_window" "_law_window" s__law_window f fd) (D__law_draw : DefOk P w K cls mg base "_law_draw" 2 [] 1 φ__law_draw) : FnOk P w K mg base CX0 (2) f fd ["_law_pool_here", "_law_wide"] (spOf K cls 2 φ__law_window) :=
  fn_ok (ps := ["_law_pool_here", "_law_wide"]) (k := 1) (m := 1) (nb := 3) (lock := [0]) (T := T__law_window) F sc__law_window rfl sp__law_window (fun c cdv A outer s H E hK hcls hlk hnb hr => by
    subst hK hcls
    have hu : (A.deeper (envOfC "_law_window" (defScope s__law_window) s.heap.objs.size f cdv)).units + 65 < cLine := by have := hr.un; omega
    have B : ∀ i, decide (i < 3) = true → i < c.nb := fun i h => by rw [hnb]; exact of_decide_eq_true h
    have L : ∀ j, decide (j ∉ ([0] : List Nat)) = true → j ∉ c.lock := fun j h => by rw [hlk]; exact of_decide_eq_true h
    have W : ∀ l : List Nat, decide (∀ i ∈ l, 3 ≤ i) = true → ∀ i ∈ l, c.nb ≤ i := fun l h => by rw [hnb]; exact of_decide_eq_true h
    have LL : ∀ l : List Nat, decide (∀ i ∈ l, i ∉ ([0] : List Nat)) = true → ∀ i ∈ l, i ∉ c.lock := fun l h => by rw [hlk]; exact of_decide_eq_true h
    have nd := sc__law_window.nd
    exact (ss_cons (s_if (t_tru (p_nm 1 (B 1 rfl))) (ss_cons (s_set 2 nd (p_call [true, false] D__law_draw hr (by omega) (a_cons (p_nm 0 (B 0 rfl)) (a_one p_int))) (L 2 rfl))
      (ss_one (s_ret (p_tup (a_cons (p_nm 2 (B 2 rfl)) (a_one (p_op (p_op (p_nm 2 (B 2 rfl)) p_int) (p_call [true, false] D__law_draw hr (by omega) (a_cons (p_nm 0 (B 0 rfl)) (a_one (p_op p_int (p_nm 2 (B 2 rfl))))))))))))) ss_nil)
      (ss_cons (s_set 2 nd (p_call [true, false] D__law_draw hr (by omega) (a_cons (p_nm 0 (B 0 rfl)) (a_one p_int))) (L 2 rfl))
      (ss_one (s_ret (p_tup (a_cons (p_nm 2 (B 2 rfl)) (a_one (p_op (p_op (p_nm 2 (B 2 rfl)) p_int) (p_call [true, false] D__law_draw hr (by omega) (a_cons (p_nm 0 (B 0 rfl)) (a_one p_int))))))))))))
set_option maxHeartbeats 4000000 in
theorem ok__law_jobs {f : Addr} {fd : FuncData} (F : Fun K "_law_jobs" "_law_jobs" s__law_jobs f fd) (D__law_draw : DefOk P w K cls mg base "_law_draw" 2 [] 1 φ__law_draw) (m_range : mg "range" = none) (D__law_window : DefOk P w K cls mg base "_law_window" 2 [] 2 φ__law_window) (D__law_name : DefOk P w K cls mg base "_law_name" 2 [] 2 φ__law_name) (m_tuple : mg "tuple" = none) : FnOk P w K mg base CX0 (3) f fd ["_law_pool_here", "_law_most"] (spOf K cls 2 φ__law_jobs) :=
  fn_ok (ps := ["_law_pool_here", "_law_most"]) (k := 2) (m := 7) (nb := 9) (lock := [0]) (T := T__law_jobs) F sc__law_jobs rfl sp__law_jobs (fun c cdv A outer s H E hK hcls hlk hnb hr => by
    subst hK hcls
    have hu : (A.deeper (envOfC "_law_jobs" (defScope s__law_jobs) s.heap.objs.size f cdv)).units + 65 < cLine := by have := hr.un; omega
    have B : ∀ i, decide (i < 9) = true → i < c.nb := fun i h => by rw [hnb]; exact of_decide_eq_true h
    have L : ∀ j, decide (j ∉ ([0] : List Nat)) = true → j ∉ c.lock := fun j h => by rw [hlk]; exact of_decide_eq_true h
    have W : ∀ l : List Nat, decide (∀ i ∈ l, 9 ≤ i) = true → ∀ i ∈ l, c.nb ≤ i := fun l h => by rw [hnb]; exact of_decide_eq_true h
    have LL : ∀ l : List Nat, decide (∀ i ∈ l, i ∉ ([0] : List Nat)) = true → ∀ i ∈ l, i ∉ c.lock := fun l h => by rw [hlk]; exact of_decide_eq_true h
    have nd := sc__law_jobs.nd
    exact (ss_cons (s_set 2 nd (p_cmp hu (p_call [true, false] D__law_draw hr (by omega) (a_cons (p_nm 0 (B 0 rfl)) (a_one p_int))) p_int) (L 2 rfl))
      (ss_cons (s_set 3 nd (p_lst a_nil) (L 3 rfl))
      (ss_cons (s_for PassesOwn.never rfl (i_rng1 m_range (a_one (p_call [true, false] D__law_draw hr (by omega) (a_cons (p_nm 0 (B 0 rfl)) (a_one (p_op (p_nm 1 (B 1 rfl)) p_int)))))) (g_nm 4 nd (L 4 rfl)) (ss_cons (s_asg (p_call [true, false] D__law_window hr (by omega) (a_cons (p_nm 0 (B 0 rfl)) (a_one (p_nm 2 (B 2 rfl))))) (g_tup rfl (g_cons (g_nm 5 nd (L 5 rfl)) (g_cons (g_nm 6 nd (L 6 rfl)) g_nil))))
      (ss_cons (s_set 7 nd (p_op p_int (p_call [true, false] D__law_draw hr (by omega) (a_cons (p_nm 0 (B 0 rfl)) (a_one p_int)))) (L 7 rfl))
      (ss_cons (s_if (t_cmp hu (p_call [true, false] D__law_draw hr (by omega) (a_cons (p_nm 0 (B 0 rfl)) (a_one p_int))) p_int) (ss_one (s_set 7 nd (p_op p_int (p_call [true, false] D__law_draw hr (by omega) (a_cons (p_nm 0 (B 0 rfl)) (a_one p_int)))) (L 7 rfl))) ss_nil)
      (ss_cons (s_if (t_pw (t_and (t_cmp hu (p_nm 4 (B 4 rfl)) p_int) (t_and1 (t_cmp hu (p_call [true, false] D__law_draw hr (by omega) (a_cons (p_nm 0 (B 0 rfl)) (a_one p_int))) p_int)))) (ss_cons (s_set 8 nd (p_ix (p_nm 3 (B 3 rfl)) (p_call [true, false] D__law_draw hr (by omega) (a_cons (p_nm 0 (B 0 rfl)) (a_one (p_nm 4 (B 4 rfl)))))) (L 8 rfl))
      (ss_one (s_par rfl nd (by decide) (a_cons (p_ix (p_nm 8 (B 8 rfl)) p_int) (a_one (p_ix (p_nm 8 (B 8 rfl)) p_int))) (L 5 rfl) (L 6 rfl)))) ss_nil)
      (ss_cons (s_if (t_pw (t_and (t_cmp hu (p_nm 4 (B 4 rfl)) p_int) (t_and1 (t_cmp hu (p_call [true, false] D__law_draw hr (by omega) (a_cons (p_nm 0 (B 0 rfl)) (a_one p_int))) p_int)))) (ss_cons (s_set 8 nd (p_ix (p_nm 3 (B 3 rfl)) (p_call [true, false] D__law_draw hr (by omega) (a_cons (p_nm 0 (B 0 rfl)) (a_one (p_nm 4 (B 4 rfl)))))) (L 8 rfl))
      (ss_one (s_if (t_cmp hu (p_ix (p_nm 8 (B 8 rfl)) p_int) p_int) (ss_one (s_par rfl nd (by decide) (a_cons (p_ix (p_nm 8 (B 8 rfl)) p_int) (a_one (p_op (p_op (p_ix (p_nm 8 (B 8 rfl)) p_int) p_int) (p_call [true, false] D__law_draw hr (by omega) (a_cons (p_nm 0 (B 0 rfl)) (a_one p_int)))))) (L 5 rfl) (L 6 rfl))) ss_nil))) ss_nil)
      (ss_one (s_exp (p_mu 3 PySem.F.plainAttrs_list PySem.F.slot_list_append PySem.F.type_list_append mt_append app_ok2 (a_one (p_tup (a_cons (p_call [true, false] D__law_name hr (by omega) (a_cons (p_nm 0 (B 0 rfl)) (a_one (p_nm 4 (B 4 rfl))))) (a_cons (p_nm 5 (B 5 rfl)) (a_cons (p_nm 6 (B 6 rfl)) (a_one (p_nm 7 (B 7 rfl)))))))))))))))))
      (ss_one (s_ret (p_cty call_tuple_of (tuple_ok rfl) m_tuple (a_one (p_nm 3 (B 3 rfl))))))))))
set_option maxHeartbeats 4000000 in
theorem ok_law {f : Addr} {fd : FuncData} (F : Fun K "law" "law" s_law f fd) (D__law_pool : DefOk P w K cls mg base "_law_pool" 1 [] 1 φ__law_pool) (D__law_jobs : DefOk P w K cls mg base "_law_jobs" 2 [] 3 φ__law_jobs) (m_str : mg "str" = none) (D_write_jobs : DefOk P w K cls mg base "write_jobs" 1 [] 1 φ_write_jobs) (D__law_same : DefOk P w K cls mg base "_law_same" 2 [] 12 φ__law_same) (D_read_jobs : DefX P w K cls mg base "read_jobs" 1 4 φ_read_jobs) : FnOk P w K mg base CX0 (13) f fd ["_law_script"] (spOf K cls 1 fnLaw) :=
  fn_ok (ps := ["_law_script"]) (k := 12) (m := 4) (nb := 4) (lock := []) (T := T_law) F sc_law rfl sp_law (fun c cdv A outer s H E hK hcls hlk hnb hr => by
    subst hK hcls
    have hu : (A.deeper (envOfC "law" (defScope s_law) s.heap.objs.size f cdv)).units + 65 < cLine := by have := hr.un; omega
    have B : ∀ i, decide (i < 4) = true → i < c.nb := fun i h => by rw [hnb]; exact of_decide_eq_true h
    have L : ∀ j, decide (j ∉ ([] : List Nat)) = true → j ∉ c.lock := fun j h => by rw [hlk]; exact of_decide_eq_true h
    have W : ∀ l : List Nat, decide (∀ i ∈ l, 4 ≤ i) = true → ∀ i ∈ l, c.nb ≤ i := fun l h => by rw [hnb]; exact of_decide_eq_true h
    have LL : ∀ l : List Nat, decide (∀ i ∈ l, i ∉ ([] : List Nat)) = true → ∀ i ∈ l, i ∉ c.lock := fun l h => by rw [hlk]; exact of_decide_eq_true h
    have nd := sc_law.nd
    exact (ss_cons (s_set 1 nd (p_call [false] D__law_pool hr (by omega) (a_one (p_nm 0 (B 0 rfl)))) (L 1 rfl))
      (ss_cons (s_set 2 nd (p_call [true, false] D__law_jobs hr (by omega) (a_cons (p_nm 1 (B 1 rfl)) (a_one p_int))) (L 2 rfl))
      (ss_cons (s_set 3 nd (p_mth PySem.F.plainAttrs_str PySem.F.slot_str_join PySem.F.type_str_join mt_join (join_ok rfl) p_str (a_one (p_lc (own := [("_law_job", 4)]) (g := .nm 4)  rfl nd (i_any (p_nm 2 (B 2 rfl))) (blkOk_by (N := ["_law_script", "_law_pool_here", "_law_jobs_here", "_law_text", "_law_job"]) (sc := defScope s_law) (by decide +kernel)) (W _ rfl) (LL _ rfl) (by decide) (fun _ _ _ _ _ => (g_nm 4 nd (L 4 rfl))) (fun _ _ _ _ _ => ts_nil) (fun _ _ _ _ _ => (p_op (p_op (p_op (p_op (p_op (p_op (p_op (p_ix (p_nmC 4) p_int) p_str) (p_cty call_str_int strI_ok m_str (a_one (p_ix (p_nmC 4) p_int)))) p_str) (p_cty call_str_int strI_ok m_str (a_one (p_ix (p_nmC 4) p_int)))) p_str) (p_cty call_str_int strI_ok m_str (a_one (p_ix (p_nmC 4) p_int)))) p_str))))) (L 3 rfl))
      (ss_one (s_ret (p_and (p_call [false, false] D__law_same hr (by omega) (a_cons (p_call [false] D_write_jobs hr (by omega) (a_one (p_nm 2 (B 2 rfl)))) (a_one (p_nm 3 (B 3 rfl))))) (p_one (p_call [false, false] D__law_same hr (by omega) (a_cons (p_callN [false] D_read_jobs hr (by omega) (a_one (p_nm 3 (B 3 rfl)))) (a_one (p_nm 2 (B 2 rfl)))))))))))))
end
set_option maxHeartbeats 4000000 in
theorem all_mk {l : PySem.W.OpenLaw} {w : World} {K : PySem.W.Frag} {h : Heap} {mg : Str → Option Value} {fa : Addr} (X : K.In h) (G : h.Ns mainGlobals mg) (hfa : mg "law" = some (.ref fa))
    {C_BadText : Addr}
    {C_WattsError : Addr}
    {f0 : Addr} {od0 an0 : Option Addr} {sl0 : Array (Option Value)} {oc0 kV0 dc0 pm0 cd0 ct0 : Value}
    {f1 : Addr} {od1 an1 : Option Addr} {sl1 : Array (Option Value)} {oc1 kV1 dc1 pm1 cd1 ct1 : Value}
    {f2 : Addr} {od2 an2 : Option Addr} {sl2 : Array (Option Value)} {oc2 kV2 dc2 pm2 cd2 ct2 : Value}
    {f3 : Addr} {od3 an3 : Option Addr} {sl3 : Array (Option Value)} {oc3 kV3 dc3 pm3 cd3 ct3 : Value}
    {f4 : Addr} {od4 an4 : Option Addr} {sl4 : Array (Option Value)} {oc4 kV4 dc4 pm4 cd4 ct4 : Value}
    {f5 : Addr} {od5 an5 : Option Addr} {sl5 : Array (Option Value)} {oc5 kV5 dc5 pm5 cd5 ct5 : Value}
    {f6 : Addr} {od6 an6 : Option Addr} {sl6 : Array (Option Value)} {oc6 kV6 dc6 pm6 cd6 ct6 : Value}
    {f7 : Addr} {od7 an7 : Option Addr} {sl7 : Array (Option Value)} {oc7 kV7 dc7 pm7 cd7 ct7 : Value}
    {f8 : Addr} {od8 an8 : Option Addr} {sl8 : Array (Option Value)} {oc8 kV8 dc8 pm8 cd8 ct8 : Value}
    {f9 : Addr} {od9 an9 : Option Addr} {sl9 : Array (Option Value)} {oc9 kV9 dc9 pm9 cd9 ct9 : Value}
    {f10 : Addr} {od10 an10 : Option Addr} {sl10 : Array (Option Value)} {oc10 kV10 dc10 pm10 cd10 ct10 : Value}
    {f11 : Addr} {od11 an11 : Option Addr} {sl11 : Array (Option Value)} {oc11 kV11 dc11 pm11 cd11 ct11 : Value}
    {f12 : Addr} {od12 an12 : Option Addr} {sl12 : Array (Option Value)} {oc12 kV12 dc12 pm12 cd12 ct12 : Value}
    {f13 : Addr} {od13 an13 : Option Addr} {sl13 : Array (Option Value)} {oc13 kV13 dc13 pm13 cd13 ct13 : Value}
    {fI_BadText N_BadText cda_BadText cc_BadText : Addr} {nm_BadText q_BadText : Str} {bs_BadText : List Value} {sn_BadText : List Str} {sub_BadText : List Value} {ab_BadText : Bool} {col_BadText : Option Bool} {dd_BadText : Option Addr} {m0_BadText m1_BadText m2_BadText m3_BadText m5_BadText : Option Value}
    {ocI_BadText kVI_BadText dcI_BadText pmI_BadText ctI_BadText : Value} {odI_BadText anI_BadText : Option Addr} {slI_BadText : Array (Option Value)} {ccl_BadText clc_BadText : Value} {cdd_BadText cld_BadText : Option Addr} {vsI_BadText : Array Value} {ccs_BadText csl_BadText : Array (Option Value)} {fil_BadText : Str} {tfl_BadText : Tok}
    {tkU_LETTERS : Tok}
    {tkU_DIGITS : Tok}
    {tkU_LATEST : Tok}
    {tkU_MOST_WORK : Tok}
    {tkU_MOST_JOBS : Tok}
    (ns_super : PySem.W.nsIn K mainGlobals "super" = some none)
    (op_any : PySem.W.nsIn K cStatics "thirdparty.any" = some none)
    (xn_class : PySem.W.specialIn K (.builtin "object.__class__") "__get__" = some (some (.builtin "getset_descriptor.__get__")))
    (xt_class : PySem.W.takesIn K (.builtin "object.__class__") = some true)
    (aC_WattsError : PySem.W.nsIn K mainGlobals "WattsError" = some (some (.ref C_WattsError)))
    (hd_WattsError : PySem.W.hasDictIn K C_WattsError = true)
    (ty_WattsError : PySem.W.typeIn K (.ref C_WattsError) = some (.type "type"))
    (bx_WattsError : PySem.W.subIn K (.ref C_WattsError) (.type "BaseException") = some true)
    (aC_BadText : PySem.W.nsIn K mainGlobals "BadText" = some (some (.ref C_BadText)))
    (hd_BadText : PySem.W.hasDictIn K C_BadText = true)
    (ty_BadText : PySem.W.typeIn K (.ref C_BadText) = some (.type "type"))
    (bx_BadText : PySem.W.subIn K (.ref C_BadText) (.type "BaseException") = some true)
    (xL_BadText : K.lookup C_BadText = some (excClassObj nm_BadText q_BadText C_BadText N_BadText bs_BadText [.ref C_WattsError, .type "ValueError", .type "Exception", .type "BaseException", .type "object"] true sn_BadText sub_BadText ab_BadText col_BadText dd_BadText m0_BadText m1_BadText m2_BadText m3_BadText m5_BadText "ValueError.__new__"))
    (xei_BadText : PySem.W.excInitIn K C_BadText [.type "ValueError", .type "Exception", .type "BaseException", .type "object"] "ValueError.__new__" = true)
    (sa_BadText : PySem.W.findIn K (.ref C_BadText) "__setattr__" = some (some (.builtin "object.__setattr__")))
    (no_BadText : PySem.W.findIn K (.ref C_BadText) "line" = some none)
    (iC_BadText : PySem.W.findIn K (.ref C_BadText) "__init__" = some (some (.ref fI_BadText)))
    (tI_BadText : PySem.W.typeIn K (.ref fI_BadText) = some (.type "function"))
    (kp_BadText : PySem.W.keepIn K (.ref C_BadText) = true)
    (ve_BadText : PySem.W.subIn K (.ref C_BadText) (.type "ValueError") = some true)
    (ow_BadText : PySem.W.mroIn K C_BadText (.ref C_BadText) = some true)
    (su_BadText : PySem.W.ks_superIn K C_BadText C_BadText "__init__" = some (some (.builtin "ValueError.__init__")))
    (lI_BadText : K.lookup fI_BadText = some ⟨ocI_BadText, odI_BadText, .func (PySem.W.ksFn "__init__" "BadText.__init__" (defArgs (inClass (topS 2) 0)) (defBody (inClass (topS 2) 0)) (defScope (inClass (topS 2) 0)) .none kVI_BadText dcI_BadText pmI_BadText anI_BadText (.ref cda_BadText) ctI_BadText cc_BadText), slI_BadText⟩)
    (cI_BadText : PySem.W.codeIn K (.ref cda_BadText) "BadText.__init__" = true)
    (lc_BadText : K.lookup cda_BadText = some ⟨ccl_BadText, cdd_BadText, .fields vsI_BadText, ccs_BadText⟩)
    (lv_BadText : vsI_BadText[2]? = some (.str fil_BadText tfl_BadText))
    (lf_BadText : ((l.prog.main.file : Str) == fil_BadText) = true)
    (ll_BadText : K.lookup cc_BadText = some ⟨clc_BadText, cld_BadText, .cell (some (.ref C_BadText)), csl_BadText⟩)
    (lt_BadText : (l.prog.main.scope.names.lookup ("super" : Str)).isSome = false)
    (xg_BadText : PySem.W.findIn K (.ref C_BadText) "__getattribute__" = some (some (.builtin "BaseException.__getattribute__")))
    (xh_BadText : PySem.W.findIn K (.ref C_BadText) "__getattr__" = some none)
    (xa_BadText : PySem.W.findIn K (.ref C_BadText) "__class__" = some (some (.builtin "object.__class__")))
    (xm_BadText : PySem.W.mroIn K C_BadText (.type "object") = some true)
    (sb_BadText_WattsError : PySem.W.subIn K (.ref C_BadText) (.ref C_WattsError) = some true)
    (sb_BadText_BadText : PySem.W.subIn K (.ref C_BadText) (.ref C_BadText) = some true)
    (a0 : PySem.W.nsIn K mainGlobals "is_name" = some (some (.ref f0)))
    (l0 : K.lookup f0 = some ⟨oc0, od0, .func (PySem.W.fnOf "is_name" "is_name" (defArgs s_is_name) (defBody s_is_name) (defScope s_is_name) .none kV0 dc0 pm0 an0 cd0 ct0), sl0⟩)
    (c0 : PySem.W.codeIn K cd0 "is_name" = true)
    (k0 : PySem.W.keepIn K (.ref f0) = true)
    (a1 : PySem.W.nsIn K mainGlobals "number_of" = some (some (.ref f1)))
    (l1 : K.lookup f1 = some ⟨oc1, od1, .func (PySem.W.fnOf "number_of" "number_of" (defArgs s_number_of) (defBody s_number_of) (defScope s_number_of) .none kV1 dc1 pm1 an1 cd1 ct1), sl1⟩)
    (c1 : PySem.W.codeIn K cd1 "number_of" = true)
    (k1 : PySem.W.keepIn K (.ref f1) = true)
    (a2 : PySem.W.nsIn K mainGlobals "split_lines" = some (some (.ref f2)))
    (l2 : K.lookup f2 = some ⟨oc2, od2, .func (PySem.W.fnOf "split_lines" "split_lines" (defArgs s_split_lines) (defBody s_split_lines) (defScope s_split_lines) .none kV2 dc2 pm2 an2 cd2 ct2), sl2⟩)
    (c2 : PySem.W.codeIn K cd2 "split_lines" = true)
    (k2 : PySem.W.keepIn K (.ref f2) = true)
    (a3 : PySem.W.nsIn K mainGlobals "is_job" = some (some (.ref f3)))
    (l3 : K.lookup f3 = some ⟨oc3, od3, .func (PySem.W.fnOf "is_job" "is_job" (defArgs s_is_job) (defBody s_is_job) (defScope s_is_job) .none kV3 dc3 pm3 an3 cd3 ct3), sl3⟩)
    (c3 : PySem.W.codeIn K cd3 "is_job" = true)
    (k3 : PySem.W.keepIn K (.ref f3) = true)
    (a4 : PySem.W.nsIn K mainGlobals "write_jobs" = some (some (.ref f4)))
    (l4 : K.lookup f4 = some ⟨oc4, od4, .func (PySem.W.fnOf "write_jobs" "write_jobs" (defArgs s_write_jobs) (defBody s_write_jobs) (defScope s_write_jobs) .none kV4 dc4 pm4 an4 cd4 ct4), sl4⟩)
    (c4 : PySem.W.codeIn K cd4 "write_jobs" = true)
    (k4 : PySem.W.keepIn K (.ref f4) = true)
    (a5 : PySem.W.nsIn K mainGlobals "read_job" = some (some (.ref f5)))
    (l5 : K.lookup f5 = some ⟨oc5, od5, .func (PySem.W.fnOf "read_job" "read_job" (defArgs s_read_job) (defBody s_read_job) (defScope s_read_job) .none kV5 dc5 pm5 an5 cd5 ct5), sl5⟩)
    (c5 : PySem.W.codeIn K cd5 "read_job" = true)
    (k5 : PySem.W.keepIn K (.ref f5) = true)
    (a6 : PySem.W.nsIn K mainGlobals "read_jobs" = some (some (.ref f6)))
    (l6 : K.lookup f6 = some ⟨oc6, od6, .func (PySem.W.fnOf "read_jobs" "read_jobs" (defArgs s_read_jobs) (defBody s_read_jobs) (defScope s_read_jobs) .none kV6 dc6 pm6 an6 cd6 ct6), sl6⟩)
    (c6 : PySem.W.codeIn K cd6 "read_jobs" = true)
    (k6 : PySem.W.keepIn K (.ref f6) = true)
    (a7 : PySem.W.nsIn K mainGlobals "_law_pool" = some (some (.ref f7)))
    (l7 : K.lookup f7 = some ⟨oc7, od7, .func (PySem.W.fnOf "_law_pool" "_law_pool" (defArgs s__law_pool) (defBody s__law_pool) (defScope s__law_pool) .none kV7 dc7 pm7 an7 cd7 ct7), sl7⟩)
    (c7 : PySem.W.codeIn K cd7 "_law_pool" = true)
    (k7 : PySem.W.keepIn K (.ref f7) = true)
    (a8 : PySem.W.nsIn K mainGlobals "_law_draw" = some (some (.ref f8)))
    (l8 : K.lookup f8 = some ⟨oc8, od8, .func (PySem.W.fnOf "_law_draw" "_law_draw" (defArgs s__law_draw) (defBody s__law_draw) (defScope s__law_draw) .none kV8 dc8 pm8 an8 cd8 ct8), sl8⟩)
    (c8 : PySem.W.codeIn K cd8 "_law_draw" = true)
    (k8 : PySem.W.keepIn K (.ref f8) = true)
    (a9 : PySem.W.nsIn K mainGlobals "_law_same" = some (some (.ref f9)))
    (l9 : K.lookup f9 = some ⟨oc9, od9, .func (PySem.W.fnOf "_law_same" "_law_same" (defArgs s__law_same) (defBody s__law_same) (defScope s__law_same) .none kV9 dc9 pm9 an9 cd9 ct9), sl9⟩)
    (c9 : PySem.W.codeIn K cd9 "_law_same" = true)
    (k9 : PySem.W.keepIn K (.ref f9) = true)
    (a10 : PySem.W.nsIn K mainGlobals "_law_name" = some (some (.ref f10)))
    (l10 : K.lookup f10 = some ⟨oc10, od10, .func (PySem.W.fnOf "_law_name" "_law_name" (defArgs s__law_name) (defBody s__law_name) (defScope s__law_name) .none kV10 dc10 pm10 an10 cd10 ct10), sl10⟩)
    (c10 : PySem.W.codeIn K cd10 "_law_name" = true)
    (k10 : PySem.W.keepIn K (.ref f10) = true)
    (a11 : PySem.W.nsIn K mainGlobals "_law_window" = some (some (.ref f11)))
    (l11 : K.lookup f11 = some ⟨oc11, od11, .func (PySem.W.fnOf "_law_window" "_law_window" (defArgs s__law_window) (defBody s__law_window) (defScope s__law_window) .none kV11 dc11 pm11 an11 cd11 ct11), sl11⟩)
    (c11 : PySem.W.codeIn K cd11 "_law_window" = true)
    (k11 : PySem.W.keepIn K (.ref f11) = true)
    (a12 : PySem.W.nsIn K mainGlobals "_law_jobs" = some (some (.ref f12)))
    (l12 : K.lookup f12 = some ⟨oc12, od12, .func (PySem.W.fnOf "_law_jobs" "_law_jobs" (defArgs s__law_jobs) (defBody s__law_jobs) (defScope s__law_jobs) .none kV12 dc12 pm12 an12 cd12 ct12), sl12⟩)
    (c12 : PySem.W.codeIn K cd12 "_law_jobs" = true)
    (k12 : PySem.W.keepIn K (.ref f12) = true)
    (a13 : PySem.W.nsIn K mainGlobals "law" = some (some (.ref f13)))
    (l13 : K.lookup f13 = some ⟨oc13, od13, .func (PySem.W.fnOf "law" "law" (defArgs s_law) (defBody s_law) (defScope s_law) .none kV13 dc13 pm13 an13 cd13 ct13), sl13⟩)
    (c13 : PySem.W.codeIn K cd13 "law" = true)
    (k13 : PySem.W.keepIn K (.ref f13) = true)
    (z_len : PySem.W.nsIn K mainGlobals "len" = some none)
    (z_all : PySem.W.nsIn K mainGlobals "all" = some none)
    (z_int : PySem.W.nsIn K mainGlobals "int" = some none)
    (z_enumerate : PySem.W.nsIn K mainGlobals "enumerate" = some none)
    (z_tuple : PySem.W.nsIn K mainGlobals "tuple" = some none)
    (z_list : PySem.W.nsIn K mainGlobals "list" = some none)
    (z_abs : PySem.W.nsIn K mainGlobals "abs" = some none)
    (z_isinstance : PySem.W.nsIn K mainGlobals "isinstance" = some none)
    (z_range : PySem.W.nsIn K mainGlobals "range" = some none)
    (z_str : PySem.W.nsIn K mainGlobals "str" = some none)
    (z_bool : PySem.W.nsIn K mainGlobals "bool" = some none)
    (z_LETTERS : PySem.W.nsIn K mainGlobals "LETTERS" = some (some (.str "abcdefghijklmnopqrstuvwxyz" tkU_LETTERS)))
    (z_DIGITS : PySem.W.nsIn K mainGlobals "DIGITS" = some (some (.str "0123456789" tkU_DIGITS)))
    (z_LATEST : PySem.W.nsIn K mainGlobals "LATEST" = some (some (.int 10000 tkU_LATEST)))
    (z_MOST_WORK : PySem.W.nsIn K mainGlobals "MOST_WORK" = some (some (.int 10000 tkU_MOST_WORK)))
    (z_MOST_JOBS : PySem.W.nsIn K mainGlobals "MOST_JOBS" = some (some (.int 12 tkU_MOST_JOBS)))
    : ∃ fd : FuncData, (∀ (s : Shared) (v : Value), BindsTo s fd ⟨[v], []⟩ [("_law_script", v)]) ∧ ∀ base : Heap, K.In base → base.Ns mainGlobals mg → FnOk l.prog w K mg base CX0 13 fa fd ["_law_script"] (spL K) := by
  have e := hfa.symm.trans (PySem.W.mg_of X G a13)
  cases e
  have m_len := PySem.W.mg_none_of X G z_len
  have m_all := PySem.W.mg_none_of X G z_all
  have m_int := PySem.W.mg_none_of X G z_int
  have m_enumerate := PySem.W.mg_none_of X G z_enumerate
  have m_tuple := PySem.W.mg_none_of X G z_tuple
  have m_list := PySem.W.mg_none_of X G z_list
  have m_abs := PySem.W.mg_none_of X G z_abs
  have m_isinstance := PySem.W.mg_none_of X G z_isinstance
  have m_range := PySem.W.mg_none_of X G z_range
  have m_str := PySem.W.mg_none_of X G z_str
  have m_bool := PySem.W.mg_none_of X G z_bool
  have C_LETTERS : ∃ (v : V) (u : Value), mg "LETTERS" = some u ∧ RelV v u ∧ ∀ H A, Rp K H A (.str "abcdefghijklmnopqrstuvwxyz") v := ⟨.str "abcdefghijklmnopqrstuvwxyz", _, PySem.W.mg_of X G z_LETTERS, ⟨_, rfl⟩, fun _ _ => Rp.ofStr _⟩
  have C_DIGITS : ∃ (v : V) (u : Value), mg "DIGITS" = some u ∧ RelV v u ∧ ∀ H A, Rp K H A (.str "0123456789") v := ⟨.str "0123456789", _, PySem.W.mg_of X G z_DIGITS, ⟨_, rfl⟩, fun _ _ => Rp.ofStr _⟩
  have C_LATEST : ∃ (v : V) (u : Value), mg "LATEST" = some u ∧ RelV v u ∧ ∀ H A, Rp K H A (.int 10000) v := ⟨.int 10000, _, PySem.W.mg_of X G z_LATEST, ⟨_, rfl⟩, fun _ _ => Rp.ofInt _⟩
  have C_MOST_WORK : ∃ (v : V) (u : Value), mg "MOST_WORK" = some u ∧ RelV v u ∧ ∀ H A, Rp K H A (.int 10000) v := ⟨.int 10000, _, PySem.W.mg_of X G z_MOST_WORK, ⟨_, rfl⟩, fun _ _ => Rp.ofInt _⟩
  have C_MOST_JOBS : ∃ (v : V) (u : Value), mg "MOST_JOBS" = some u ∧ RelV v u ∧ ∀ H A, Rp K H A (.int 12) v := ⟨.int 12, _, PySem.W.mg_of X G z_MOST_JOBS, ⟨_, rfl⟩, fun _ _ => Rp.ofInt _⟩
  have e_BadText : ((fun x => if x = "BadText" then some C_BadText else none) : Str → Option Addr) ("BadText" : Str) = some C_BadText := by
    show (if ("BadText" : Str) = "BadText" then some C_BadText else none) = _
    rw [if_pos rfl]
  have m_super : mg "super" = none := PySem.W.mg_none_of X G ns_super
  have X_BadText : ExI K C_BadText "line" := ⟨xg_BadText, xh_BadText, bx_BadText, xa_BadText, xn_class, xt_class, xm_BadText, hd_BadText, no_BadText⟩
  have T_BadText : PySem.ExM.Txt l.prog K C_BadText fI_BadText "line" := { cls := ⟨_, _, _, _, _, _, _, _, _, _, _, _, _, _, _, xL_BadText, by rfl⟩, ei := xei_BadText, sa := sa_BadText, noN := no_BadText, iC := iC_BadText, tC := tI_BadText, kC := kp_BadText, exC := bx_BadText, veC := ve_BadText, tyC := ty_BadText, own := ow_BadText, op := op_any, sup := su_BadText, nsup := ns_super, top := lt_BadText, fn := ⟨_, _, _, _, _, _, _, _, _, _, _, _, _, _, _, _, _, _, _, _, _, _, _, _, _, _, _, _, _, _, _, _, _, _, _, _, lI_BadText, cI_BadText, rfl, rfl, rfl, rfl, rfl, rfl, rfl, rfl, rfl, rfl, by decide +kernel, fun s x v => .of_eq rfl, lc_BadText, lv_BadText, lf_BadText, ll_BadText, by decide +kernel, by decide +kernel, fun L => ⟨_, rfl, rfl, rfl, rfl, rfl⟩⟩ }
  have E_BadText : ExcOk l.prog K (fun x => if x = "BadText" then some C_BadText else none) mg "BadText" "line" := ⟨_, _, e_BadText, T_BadText, PySem.W.mg_of X G aC_BadText, m_super, X_BadText⟩
  have F0 := fun_mk (st := s_is_name) l0 c0 k0
  have b0 := F0.binds (ps := ["word"]) fun _ _ _ _ _ _ us hl => match us, hl with | [_], _ => rfl
  have g0 := PySem.W.mg_of X G a0
  have F1 := fun_mk (st := s_number_of) l1 c1 k1
  have b1 := F1.binds (ps := ["word", "most"]) fun _ _ _ _ _ _ us hl => match us, hl with | [_, _], _ => rfl
  have g1 := PySem.W.mg_of X G a1
  have F2 := fun_mk (st := s_split_lines) l2 c2 k2
  have b2 := F2.binds (ps := ["text"]) fun _ _ _ _ _ _ us hl => match us, hl with | [_], _ => rfl
  have g2 := PySem.W.mg_of X G a2
  have F3 := fun_mk (st := s_is_job) l3 c3 k3
  have b3 := F3.binds (ps := ["name", "comes", "due", "work"]) fun _ _ _ _ _ _ us hl => match us, hl with | [_, _, _, _], _ => rfl
  have g3 := PySem.W.mg_of X G a3
  have F4 := fun_mk (st := s_write_jobs) l4 c4 k4
  have b4 := F4.binds (ps := ["jobs"]) fun _ _ _ _ _ _ us hl => match us, hl with | [_], _ => rfl
  have g4 := PySem.W.mg_of X G a4
  have F5 := fun_mk (st := s_read_job) l5 c5 k5
  have b5 := F5.binds (ps := ["line"]) fun _ _ _ _ _ _ us hl => match us, hl with | [_], _ => rfl
  have g5 := PySem.W.mg_of X G a5
  have F6 := fun_mk (st := s_read_jobs) l6 c6 k6
  have b6 := F6.binds (ps := ["text"]) fun _ _ _ _ _ _ us hl => match us, hl with | [_], _ => rfl
  have g6 := PySem.W.mg_of X G a6
  have F7 := fun_mk (st := s__law_pool) l7 c7 k7
  have b7 := F7.binds (ps := ["_law_script"]) fun _ _ _ _ _ _ us hl => match us, hl with | [_], _ => rfl
  have g7 := PySem.W.mg_of X G a7
  have F8 := fun_mk (st := s__law_draw) l8 c8 k8
  have b8 := F8.binds (ps := ["_law_pool_here", "_law_many"]) fun _ _ _ _ _ _ us hl => match us, hl with | [_, _], _ => rfl
  have g8 := PySem.W.mg_of X G a8
  have F9 := fun_mk (st := s__law_same) l9 c9 k9
  have b9 := F9.binds (ps := ["_law_actual", "_law_due"]) fun _ _ _ _ _ _ us hl => match us, hl with | [_, _], _ => rfl
  have g9 := PySem.W.mg_of X G a9
  have F10 := fun_mk (st := s__law_name) l10 c10 k10
  have b10 := F10.binds (ps := ["_law_pool_here", "_law_index"]) fun _ _ _ _ _ _ us hl => match us, hl with | [_, _], _ => rfl
  have g10 := PySem.W.mg_of X G a10
  have F11 := fun_mk (st := s__law_window) l11 c11 k11
  have b11 := F11.binds (ps := ["_law_pool_here", "_law_wide"]) fun _ _ _ _ _ _ us hl => match us, hl with | [_, _], _ => rfl
  have g11 := PySem.W.mg_of X G a11
  have F12 := fun_mk (st := s__law_jobs) l12 c12 k12
  have b12 := F12.binds (ps := ["_law_pool_here", "_law_most"]) fun _ _ _ _ _ _ us hl => match us, hl with | [_, _], _ => rfl
  have g12 := PySem.W.mg_of X G a12
  have F13 := fun_mk (st := s_law) l13 c13 k13
  have b13 := F13.binds (ps := ["_law_script"]) fun _ _ _ _ _ _ us hl => match us, hl with | [_], _ => rfl
  have g13 := PySem.W.mg_of X G a13
  refine ⟨PySem.W.fnOf "law" "law" (defArgs s_law) (defBody s_law) (defScope s_law) .none kV13 dc13 pm13 an13 cd13 ct13, fun s v => .of_eq rfl, fun base _ _ => ?_⟩
  have D_is_name : DefOk l.prog w K (fun x => if x = "BadText" then some C_BadText else none) mg base "is_name" 1 [] 1 φ_is_name := DefOk.mk' g0 F0.kp b0 (ok_is_name F0 m_len m_all C_LETTERS) rfl
  have D_number_of : DefOk l.prog w K (fun x => if x = "BadText" then some C_BadText else none) mg base "number_of" 2 [] 1 φ_number_of := DefOk.mk' g1 F1.kp b1 (ok_number_of F1 m_len m_all C_DIGITS m_int) rfl
  have D_split_lines : DefOk l.prog w K (fun x => if x = "BadText" then some C_BadText else none) mg base "split_lines" 1 [] 1 φ_split_lines := DefOk.mk' g2 F2.kp b2 (ok_split_lines F2 ) rfl
  have D_write_jobs : DefOk l.prog w K (fun x => if x = "BadText" then some C_BadText else none) mg base "write_jobs" 1 [] 1 φ_write_jobs := DefOk.mk' g4 F4.kp b4 (ok_write_jobs F4 ) rfl
  have D__law_pool : DefOk l.prog w K (fun x => if x = "BadText" then some C_BadText else none) mg base "_law_pool" 1 [] 1 φ__law_pool := DefOk.mk' g7 F7.kp b7 (ok__law_pool F7 m_list) rfl
  have D__law_draw : DefOk l.prog w K (fun x => if x = "BadText" then some C_BadText else none) mg base "_law_draw" 2 [] 1 φ__law_draw := DefOk.mk' g8 F8.kp b8 (ok__law_draw F8 m_int m_len m_abs) rfl
  have D_is_job : DefOk l.prog w K (fun x => if x = "BadText" then some C_BadText else none) mg base "is_job" 4 [] 2 φ_is_job := DefOk.mk' g3 F3.kp b3 (ok_is_job F3 D_is_name C_LATEST C_MOST_WORK) rfl
  have D__law_name : DefOk l.prog w K (fun x => if x = "BadText" then some C_BadText else none) mg base "_law_name" 2 [] 2 φ__law_name := DefOk.mk' g10 F10.kp b10 (ok__law_name F10 D__law_draw) rfl
  have D__law_window : DefOk l.prog w K (fun x => if x = "BadText" then some C_BadText else none) mg base "_law_window" 2 [] 2 φ__law_window := DefOk.mk' g11 F11.kp b11 (ok__law_window F11 D__law_draw) rfl
  have D_read_job : DefOk l.prog w K (fun x => if x = "BadText" then some C_BadText else none) mg base "read_job" 1 [] 3 φ_read_job := DefOk.mk' g5 F5.kp b5 (ok_read_job F5 m_len D_number_of D_is_job) rfl
  have D__law_jobs : DefOk l.prog w K (fun x => if x = "BadText" then some C_BadText else none) mg base "_law_jobs" 2 [] 3 φ__law_jobs := DefOk.mk' g12 F12.kp b12 (ok__law_jobs F12 D__law_draw m_range D__law_window D__law_name m_tuple) rfl
  have D_read_jobs : DefX l.prog w K (fun x => if x = "BadText" then some C_BadText else none) mg base "read_jobs" 1 4 φ_read_jobs := ⟨_, _, _, g6, F6.kp, b6, ok_read_jobs F6 D_split_lines m_enumerate D_read_job m_len C_MOST_JOBS E_BadText m_tuple⟩
  have D__law_same : DefOk l.prog w K (fun x => if x = "BadText" then some C_BadText else none) mg base "_law_same" 2 [] 12 φ__law_same := okN__law_same F9 g9 b9 m_isinstance m_tuple m_len m_range m_str m_int m_bool 12
  exact spL_of (cls := (fun x => if x = "BadText" then some C_BadText else none)) (ok_law F13 D__law_pool D__law_jobs m_str D_write_jobs D__law_same D_read_jobs)
end Pm
open PySem PySem.W PyProof.Rows
set_option maxRecDepth 100000 in
set_option maxHeartbeats 0 in
theorem PySem.Challenge.cw_sparewatts_k02_job_texts_holds : PySem.Challenge.rw_sparewatts_k02_job_texts.Holds := by
  w_on; o_law; k_head; (case hw => w_witness2)
  k_fill
  refine Pm.walk (l := PySem.Challenge.rw_sparewatts_k02_job_texts) (k := 13) rfl rfl ⟨rfl, by decide, by decide⟩ (fun w h Y => PySem.W.kIn_of Y) ?F
  case F =>
    intro w mg fa h KX G hmg
    refine' Pm.all_mk KX G hmg ?ns_super ?op_any ?xn_class ?xt_class ?aC_WattsError ?hd_WattsError ?ty_WattsError ?bx_WattsError ?aC_BadText ?hd_BadText ?ty_BadText ?bx_BadText ?xL_BadText ?xei_BadText ?sa_BadText ?no_BadText ?iC_BadText ?tI_BadText ?kp_BadText ?ve_BadText ?ow_BadText ?su_BadText ?lI_BadText ?cI_BadText ?lc_BadText ?lv_BadText ?lf_BadText ?ll_BadText ?lt_BadText ?xg_BadText ?xh_BadText ?xa_BadText ?xm_BadText ?sb_BadText_WattsError ?sb_BadText_BadText ?a0 ?l0 ?c0 ?k0 ?a1 ?l1 ?c1 ?k1 ?a2 ?l2 ?c2 ?k2 ?a3 ?l3 ?c3 ?k3 ?a4 ?l4 ?c4 ?k4 ?a5 ?l5 ?c5 ?k5 ?a6 ?l6 ?c6 ?k6 ?a7 ?l7 ?c7 ?k7 ?a8 ?l8 ?c8 ?k8 ?a9 ?l9 ?c9 ?k9 ?a10 ?l10 ?c10 ?k10 ?a11 ?l11 ?c11 ?k11 ?a12 ?l12 ?c12 ?k12 ?a13 ?l13 ?c13 ?k13 ?z_len ?z_all ?z_int ?z_enumerate ?z_tuple ?z_list ?z_abs ?z_isinstance ?z_range ?z_str ?z_bool ?z_LETTERS ?z_DIGITS ?z_LATEST ?z_MOST_WORK ?z_MOST_JOBS
    (case ns_super => k_is)
    (case op_any => k_is)
    (case xn_class => k_is)
    (case xt_class => k_is)
    (case aC_WattsError => k_is)
    (case hd_WattsError => k_is)
    (case ty_WattsError => k_is)
    (case bx_WattsError => k_is)
    (case aC_BadText => k_is)
    (case hd_BadText => k_is)
    (case ty_BadText => k_is)
    (case bx_BadText => k_is)
    (case xL_BadText => k_is)
    (case xei_BadText => kx_is)
    (case sa_BadText => k_is)
    (case no_BadText => k_is)
    (case iC_BadText => k_is)
    (case tI_BadText => k_is)
    (case kp_BadText => k_is)
    (case ve_BadText => k_is)
    (case ow_BadText => k_is)
    (case su_BadText => ks_is)
    (case lI_BadText => k_is)
    (case cI_BadText => k_is)
    (case lc_BadText => k_is)
    (case lv_BadText => first | rfl | decide +kernel)
    (case lf_BadText => first | rfl | decide +kernel)
    (case ll_BadText => k_is)
    (case lt_BadText => first | rfl | decide +kernel)
    (case xg_BadText => k_is)
    (case xh_BadText => k_is)
    (case xa_BadText => k_is)
    (case xm_BadText => k_is)
    (case sb_BadText_WattsError => k_is)
    (case sb_BadText_BadText => k_is)
    (case a0 => k_is)
    (case l0 => k_is)
    (case c0 => k_is)
    (case k0 => k_is)
    (case a1 => k_is)
    (case l1 => k_is)
    (case c1 => k_is)
    (case k1 => k_is)
    (case a2 => k_is)
    (case l2 => k_is)
    (case c2 => k_is)
    (case k2 => k_is)
    (case a3 => k_is)
    (case l3 => k_is)
    (case c3 => k_is)
    (case k3 => k_is)
    (case a4 => k_is)
    (case l4 => k_is)
    (case c4 => k_is)
    (case k4 => k_is)
    (case a5 => k_is)
    (case l5 => k_is)
    (case c5 => k_is)
    (case k5 => k_is)
    (case a6 => k_is)
    (case l6 => k_is)
    (case c6 => k_is)
    (case k6 => k_is)
    (case a7 => k_is)
    (case l7 => k_is)
    (case c7 => k_is)
    (case k7 => k_is)
    (case a8 => k_is)
    (case l8 => k_is)
    (case c8 => k_is)
    (case k8 => k_is)
    (case a9 => k_is)
    (case l9 => k_is)
    (case c9 => k_is)
    (case k9 => k_is)
    (case a10 => k_is)
    (case l10 => k_is)
    (case c10 => k_is)
    (case k10 => k_is)
    (case a11 => k_is)
    (case l11 => k_is)
    (case c11 => k_is)
    (case k11 => k_is)
    (case a12 => k_is)
    (case l12 => k_is)
    (case c12 => k_is)
    (case k12 => k_is)
    (case a13 => k_is)
    (case l13 => k_is)
    (case c13 => k_is)
    (case k13 => k_is)
    (case z_len => k_is)
    (case z_all => k_is)
    (case z_int => k_is)
    (case z_enumerate => k_is)
    (case z_tuple => k_is)
    (case z_list => k_is)
    (case z_abs => k_is)
    (case z_isinstance => k_is)
    (case z_range => k_is)
    (case z_str => k_is)
    (case z_bool => k_is)
    (case z_LETTERS => k_is)
    (case z_DIGITS => k_is)
    (case z_LATEST => k_is)
    (case z_MOST_WORK => k_is)
    (case z_MOST_JOBS => k_is)
