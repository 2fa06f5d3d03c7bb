import PyProof.Rows.All
import Wide.All
import OpenK.AllK
import Wide.FinOn
import HandS.ForMost
import HandS.Wide
import HandS.Gcd
import HandS.Dict
import HandS.IsInst
import HandS.Defaults
import HandS.Deep
import HandS.TupAny
import HandS.EndBits
import HandS.More
import HandS.SortInts
import KE.GoesEnumKw
import HandS.DictComp
import HandS.Strs
import HandS.Rev
import KE.KMathGC
import HandS.SetBool
import HandS.SortRule
import PyProof.Rows.StrMeet
import PySem.Challenge.RW_sparewatts_k11_speeds_of_rounds_fall
set_option Elab.async false
set_option linter.all false
set_option maxRecDepth 100000
set_option autoImplicit false
namespace Pm
open PySem PySem.Spec PyProof.Rows L2

abbrev St := L2.St
/-! ## pure data -/
inductive D where
  | non | bl (b : Bool) | int (i : Int) | str (x : Str) | tup (l : List D) | lst (l : List D) | scr (ns : List Int)

abbrev Av := Addr → Prop
section
variable (K : PySem.W.Frag) (H : Hp) (A : Av)
mutual
def Rp : D → V → Prop
  | .non, v => v = .non
  | .bl b, v => v = .bl b
  | .int i, v => v = .int i
  | .str x, v => v = .str x
  | .tup l, v => ∃ a vs, v = .ref a ∧ SqT K H a vs ∧ Rps l vs
  | .lst l, v => ∃ a vs, v = .ref a ∧ H a = some (.lst vs) ∧ ¬ A a ∧ Rps l vs
  | .scr ns, v => ∃ a, v = .ref a ∧ ((∃ o, H a = some (.frz o (.lst (ns.map V.int)))) ∨ SqL K (fun _ => none) a (ns.map V.int))
def Rps : List D → List V → Prop
  | [], vs => vs = []
  | d :: ds, vs => ∃ v r, vs = v :: r ∧ Rp d v ∧ Rps ds r
end
/-- at the top a list may be owned -/
def RpT : D → V → Prop
  | .lst l, v => ∃ a vs, v = .ref a ∧ H a = some (.lst vs) ∧ Rps K H A l vs
  | d, v => Rp K H A d v
end
section
variable {K : PySem.W.Frag} {H H' : Hp} {A A' : Av}
theorem Rps.length : ∀ {l : List D} {vs : List V}, Rps K H A l vs → vs.length = l.length
  | [], vs, h => by unfold Rps at h; subst h; rfl
  | d :: ds, vs, h => by
    unfold Rps at h
    obtain ⟨v, r, rfl, _, h2⟩ := h
    simp [Rps.length h2]
theorem Rps.get : ∀ {l : List D} {vs : List V} {i : Nat} {d : D}, Rps K H A l vs → l[i]? = some d → ∃ v, vs[i]? = some v ∧ Rp K H A d v
  | [], _, _, _, _, e => by simp at e
  | d :: ds, vs, 0, d', h, e => by
    unfold Rps at h
    obtain ⟨v, r, rfl, h1, h2⟩ := h
    simp at e; subst e
    exact ⟨v, rfl, h1⟩
  | d :: ds, vs, i + 1, d', h, e => by
    unfold Rps at h
    obtain ⟨v, r, rfl, h1, h2⟩ := h
    obtain ⟨w, q1, q2⟩ := Rps.get (i := i) h2 (by simpa using e)
    exact ⟨w, by simpa using q1, q2⟩
theorem Rps.app : ∀ {l m : List D} {vs ws : List V}, Rps K H A l vs → Rps K H A m ws → Rps K H A (l ++ m) (vs ++ ws)
  | [], m, vs, ws, h, h' => by unfold Rps at h; subst h; exact h'
  | d :: ds, m, vs, ws, h, h' => by
    unfold Rps at h
    obtain ⟨v, r, rfl, h1, h2⟩ := h
    show Rps K H A (d :: (ds ++ m)) (v :: (r ++ ws))
    unfold Rps
    exact ⟨v, _, rfl, h1, Rps.app h2 h'⟩
theorem Rps.nil : Rps K H A [] [] := by unfold Rps; rfl
theorem Rps.cons {d : D} {v : V} {ds : List D} {vs : List V} (h : Rp K H A d v) (t : Rps K H A ds vs) : Rps K H A (d :: ds) (v :: vs) := by
  unfold Rps; exact ⟨v, vs, rfl, h, t⟩
theorem Rps.one {d : D} {v : V} (h : Rp K H A d v) : Rps K H A [d] [v] := .cons h .nil
theorem Rps.take : ∀ {l : List D} {vs : List V} (n : Nat), Rps K H A l vs → Rps K H A (l.take n) (vs.take n)
  | l, vs, 0, _ => by simp; exact Rps.nil
  | [], vs, n + 1, h => by unfold Rps at h; subst h; exact Rps.nil
  | d :: ds, vs, n + 1, h => by
    unfold Rps at h
    obtain ⟨v, r, rfl, h1, h2⟩ := h
    exact .cons h1 (Rps.take n h2)
theorem Rps.drop : ∀ {l : List D} {vs : List V} (n : Nat), Rps K H A l vs → Rps K H A (l.drop n) (vs.drop n)
  | l, vs, 0, h => by simpa using h
  | [], vs, n + 1, h => by unfold Rps at h; subst h; exact Rps.nil
  | d :: ds, vs, n + 1, h => by
    unfold Rps at h
    obtain ⟨v, r, rfl, h1, h2⟩ := h
    exact Rps.drop n h2
theorem Rps.set {d : D} {v : V} : ∀ {l : List D} {vs : List V} (n : Nat), Rps K H A l vs → Rp K H A d v → Rps K H A (l.set n d) (vs.set n v)
  | [], vs, n, h, _ => by unfold Rps at h; subst h; exact Rps.nil
  | d' :: ds, vs, 0, h, q => by
    unfold Rps at h
    obtain ⟨v, r, rfl, h1, h2⟩ := h
    exact .cons q h2
  | d' :: ds, vs, n + 1, h, q => by
    unfold Rps at h
    obtain ⟨v, r, rfl, h1, h2⟩ := h
    exact .cons h1 (Rps.set n h2 q)
theorem Rps.eraseIdx : ∀ {l : List D} {vs : List V} (n : Nat), Rps K H A l vs → Rps K H A (l.eraseIdx n) (vs.eraseIdx n)
  | [], vs, n, h => by unfold Rps at h; subst h; exact Rps.nil
  | d' :: ds, vs, 0, h => by
    unfold Rps at h
    obtain ⟨v, r, rfl, h1, h2⟩ := h
    exact h2
  | d' :: ds, vs, n + 1, h => by
    unfold Rps at h
    obtain ⟨v, r, rfl, h1, h2⟩ := h
    exact .cons h1 (Rps.eraseIdx n h2)
mutual
theorem Rp.mono (hF : ∀ a o u, H a = some (.frz o u) → H' a = some (.frz o u)) (hT : ∀ a xs, SqT K H a xs → SqT K H' a xs) (hL : ∀ a xs, H a = some (.lst xs) → ¬ A a → H' a = some (.lst xs) ∧ ¬ A' a) :
    ∀ (d : D) (v : V), Rp K H A d v → Rp K H' A' d v
  | .non, v, h => by unfold Rp at h ⊢; exact h
  | .bl b, v, h => by unfold Rp at h ⊢; exact h
  | .int i, v, h => by unfold Rp at h ⊢; exact h
  | .str x, v, h => by unfold Rp at h ⊢; exact h
  | .tup l, v, h => by
    unfold Rp at h ⊢
    obtain ⟨a, vs, e, q, r⟩ := h
    exact ⟨a, vs, e, hT a vs q, Rps.mono hF hT hL l vs r⟩
  | .lst l, v, h => by
    unfold Rp at h ⊢
    obtain ⟨a, vs, e, q, n, r⟩ := h
    obtain ⟨q', n'⟩ := hL a vs q n
    exact ⟨a, vs, e, q', n', Rps.mono hF hT hL l vs r⟩
  | .scr ns, v, h => by
    unfold Rp at h ⊢
    obtain ⟨a, e, q⟩ := h
    refine ⟨a, e, ?_⟩
    rcases q with ⟨o, q⟩ | q
    · exact .inl ⟨o, hF a o _ q⟩
    · exact .inr q
theorem Rps.mono (hF : ∀ a o u, H a = some (.frz o u) → H' a = some (.frz o u)) (hT : ∀ a xs, SqT K H a xs → SqT K H' a xs) (hL : ∀ a xs, H a = some (.lst xs) → ¬ A a → H' a = some (.lst xs) ∧ ¬ A' a) :
    ∀ (l : List D) (vs : List V), Rps K H A l vs → Rps K H' A' l vs
  | [], vs, h => by unfold Rps at h ⊢; exact h
  | d :: ds, vs, h => by
    unfold Rps at h ⊢
    obtain ⟨v, r, e, h1, h2⟩ := h
    exact ⟨v, r, e, Rp.mono hF hT hL d v h1, Rps.mono hF hT hL ds r h2⟩
end
theorem Rp.top {d : D} {v : V} (h : Rp K H A d v) : RpT K H A d v := by
  cases d with
  | lst l =>
    unfold Rp at h
    obtain ⟨a, vs, e, q, _, r⟩ := h
    exact ⟨a, vs, e, q, r⟩
  | _ => exact h
end

/-! ## contents, results, the context -/
/-- what a slot (or a field) holds: frozen data, an owned list, an owned dict -/
inductive FC where
  | fz (d : D) | ow (l : List D) | dk (kvs : List (Key × D))
inductive Ct where
  | no | at (f : FC) | ob (nm : Str) (fs : List (Str × FC))
inductive R where
  | al (i : Nat) | alf (i : Nat) (f : Str) | va (c : Ct)
abbrev En := List Ct
structure Exn where
  nm : Str
  fs : List (Str × D)
abbrev Fz (d : D) : Ct := .at (.fz d)
abbrev Wl (l : List D) : Ct := .at (.ow l)

inductive Lab where
  | s (i : Nat) | t (i : Nat) | r
  deriving DecidableEq
abbrev Ow := Addr → Option (Lab × Option Str)

structure Cc where
  K : PySem.W.Frag
  cls : Str → Option Addr
  Z : Addr → Prop
  H0 : Hp
  I : Addr → Prop
  io : List (Nat × Addr)
  lock : List Nat
  nb : Nat

def Cc.av (c : Cc) (O : Ow) : Av := fun a => c.Z a ∨ O a ≠ none

section
variable (c : Cc) (H : Hp) (O : Ow)
def FOk (v : V) (ℓ : Lab × Option Str) : FC → Prop
  | .fz d => Rp c.K H (c.av O) d v
  | .ow l => ∃ a vs, v = .ref a ∧ O a = some ℓ ∧ H a = some (.lst vs) ∧ Rps c.K H (c.av O) l vs
  | .dk kvs => ∃ a ws, v = .ref a ∧ O a = some ℓ ∧ H a = some (.dK ws) ∧ ws.map (·.1) = kvs.map (·.1) ∧ Rps c.K H (c.av O) (kvs.map (·.2)) (ws.map (·.2))
def FsOk (ℓ : Lab) (fs : List (Str × FC)) (vs : List (Str × V)) : Prop :=
  vs.map (·.1) = fs.map (·.1) ∧ ∀ f fc, fs.lookup f = some fc → ∃ w, vs.lookup f = some w ∧ FOk c H O w (ℓ, some f) fc
def COk (v : V) (ℓ : Lab) : Ct → Prop
  | .no => True
  | .at f => FOk c H O v (ℓ, none) f
  | .ob nm fs => ∃ x dx C vfs, v = .ref x ∧ O x = some (ℓ, none) ∧ c.cls nm = some C ∧ H x = some (.ins C dx vfs) ∧ FsOk c H O ℓ fs vfs
def TOk (σ : St) : List (V × R) → Prop
  | [] => True
  | (v, .al i) :: τ => (i < c.nb ∧ σ[i]? = some (some v)) ∧ TOk σ τ
  | (v, .alf i f) :: τ => (∃ x C dx vfs, i < c.nb ∧ σ[i]? = some (some (.ref x)) ∧ O x = some (.s i, none) ∧ H x = some (.ins C dx vfs) ∧ vfs.lookup f = some v) ∧ TOk σ τ
  | (v, .va ct) :: τ => COk c H O v (.t τ.length) ct ∧ TOk σ τ
structure Sim0 (ρ : En) (τ : List (V × R)) (σ : St) : Prop where
  len : σ.length = ρ.length
  fr : ∀ a o, c.H0 a = some o → ¬ c.I a → H a = some o
  ow : ∀ a ℓ, O a = some ℓ → ¬ c.Z a ∧ (c.H0 a = none ∨ c.I a) ∧ Mut (H a)
  zt : ∀ a, c.Z a → H a ≠ none
  io : ∀ p ∈ c.io, p.1 ∈ c.lock ∧ σ[p.1]? = some (some (.ref p.2))
  sl : ∀ i ct, ρ[i]? = some ct → ct ≠ .no → ∃ v, σ[i]? = some (some v) ∧ COk c H O v (.s i) ct
  tm : TOk c H O σ τ
end
def Sim (c : Cc) (ρ : En) (τ : List (V × R)) (σ : St) (H : Hp) : Prop := ∃ O, Sim0 c H O ρ τ σ

/-- all but the roots of labels in P is kept -/
structure Ext (c : Cc) (P : Lab × Option Str → Addr → Prop) (O O' : Ow) (H H' : Hp) : Prop where
  hF : ∀ a o u, H a = some (.frz o u) → H' a = some (.frz o u)
  hT : ∀ a xs, SqT c.K H a xs → SqT c.K H' a xs
  hL : ∀ a xs, H a = some (.lst xs) → ¬ c.av O a → H' a = some (.lst xs) ∧ ¬ c.av O' a
  hO : ∀ a ℓ o, O a = some ℓ → ¬ P ℓ a → H a = some o → O' a = some ℓ ∧ H' a = some o

section
variable {c : Cc} {P : Lab × Option Str → Addr → Prop} {O O' : Ow} {H H' : Hp} {ρ : En} {τ : List (V × R)} {σ : St} {v : V} {ℓ : Lab} {ct : Ct}
theorem Ext.rp (e : Ext c P O O' H H') {d : D} (h : Rp c.K H (c.av O) d v) : Rp c.K H' (c.av O') d v := Rp.mono e.hF e.hT e.hL d v h
theorem Ext.rps (e : Ext c P O O' H H') {l : List D} {vs : List V} (h : Rps c.K H (c.av O) l vs) : Rps c.K H' (c.av O') l vs := Rps.mono e.hF e.hT e.hL l vs h
theorem FOk.mono (e : Ext c P O O' H H') {m : Lab × Option Str} (hp : ∀ a, ¬ P m a) {f : FC} (h : FOk c H O v m f) : FOk c H' O' v m f := by
  cases f with
  | fz d => exact e.rp h
  | ow l =>
    obtain ⟨a, vs, rfl, o, ha, r⟩ := h
    obtain ⟨o', ha'⟩ := e.hO a _ _ o (hp a) ha
    exact ⟨a, vs, rfl, o', ha', e.rps r⟩
  | dk kvs =>
    obtain ⟨a, ws, rfl, o, ha, k, r⟩ := h
    obtain ⟨o', ha'⟩ := e.hO a _ _ o (hp a) ha
    exact ⟨a, ws, rfl, o', ha', k, e.rps r⟩
theorem FsOk.mono (e : Ext c P O O' H H') (hp : ∀ f a, ¬ P (ℓ, some f) a) {fs : List (Str × FC)} {vs : List (Str × V)} (h : FsOk c H O ℓ fs vs) : FsOk c H' O' ℓ fs vs :=
  ⟨h.1, fun f fc q => let ⟨w, e1, e2⟩ := h.2 f fc q; ⟨w, e1, e2.mono e (hp f)⟩⟩
theorem COk.mono (e : Ext c P O O' H H') (hp : ∀ m a, ¬ P (ℓ, m) a) (h : COk c H O v ℓ ct) : COk c H' O' v ℓ ct := by
  cases ct with
  | no => trivial
  | «at» f => exact FOk.mono e (hp _) h
  | ob nm fs =>
    obtain ⟨x, dx, C, vfs, rfl, o, k, hx, r⟩ := h
    obtain ⟨o', hx'⟩ := e.hO x _ _ o (hp _ _) hx
    exact ⟨x, dx, C, vfs, rfl, o', k, hx', FsOk.mono e (fun f => hp _) r⟩
/-- the temporaries: only those with labels outside of P, and aliases of fields of slots outside of P -/
theorem TOk.mono (e : Ext c P O O' H H') : ∀ {τ : List (V × R)}, (∀ k m a, k < τ.length → ¬ P (.t k, m) a) → (∀ v i f, (v, R.alf i f) ∈ τ → ∀ x C dx vfs, H x = some (.ins C dx vfs) → ¬ P (.s i, none) x) → TOk c H O σ τ → TOk c H' O' σ τ
  | [], _, _, _ => trivial
  | (v, .al i) :: τ, ht, hf, h => ⟨h.1, TOk.mono e (fun k m a hk => ht k m a (by simp; omega)) (fun v i f m => hf v i f (List.mem_cons_of_mem _ m)) h.2⟩
  | (v, .alf i f) :: τ, ht, hf, h => by
    obtain ⟨⟨x, C, dx, vfs, hb, e1, o, e2, e3⟩, h2⟩ := h
    obtain ⟨o', e2'⟩ := e.hO x _ _ o (hf v i f List.mem_cons_self _ _ _ _ e2) e2
    exact ⟨⟨x, C, dx, vfs, hb, e1, o', e2', e3⟩, TOk.mono e (fun k m a hk => ht k m a (by simp; omega)) (fun v i f m => hf v i f (List.mem_cons_of_mem _ m)) h2⟩
  | (v, .va ct) :: τ, ht, hf, h => ⟨COk.mono e (fun m a => ht _ m a (by simp)) h.1, TOk.mono e (fun k m a hk => ht k m a (by simp; omega)) (fun v i f m => hf v i f (List.mem_cons_of_mem _ m)) h.2⟩

/-! ### the ways a state goes on -/
def Ow.set (O : Ow) (p : Addr) (m : Option (Lab × Option Str)) : Ow := fun a => if a = p then m else O a
theorem Ow.set_same {p : Addr} {m : Option (Lab × Option Str)} : O.set p m p = m := by simp [Ow.set]
theorem Ow.set_ne {p a : Addr} {m : Option (Lab × Option Str)} (h : a ≠ p) : O.set p m a = O a := by simp [Ow.set, h]

theorem SqT.upd_new {K : PySem.W.Frag} {p a : Addr} {o : HO} {xs : List V} (hp : H p = none) (h : SqT K H a xs) : SqT K (upd H p o) a xs := by
  rcases h with (h | ⟨u, h⟩) | h
  · exact .inl (.inl (by rw [upd_ne (ne_of_none h hp)]; exact h))
  · exact .inl (.inr ⟨u, by rw [upd_ne (ne_of_none h hp)]; exact h⟩)
  · exact .inr h
theorem SqT.upd_old {K : PySem.W.Frag} {p a : Addr} {o u : HO} {xs : List V} (hp : H p = some u) (hu : Mut (some u)) (h : SqT K H a xs) : SqT K (upd H p o) a xs := by
  rcases h with (h | ⟨w, h⟩) | h
  · refine .inl (.inl ?_)
    rw [upd_ne]; · exact h
    intro e; subst e; rw [h] at hp; cases hp; exact hu
  · refine .inl (.inr ⟨w, ?_⟩)
    rw [upd_ne]; · exact h
    intro e; subst e; rw [h] at hp; cases hp; exact hu
  · exact .inr h
/-- a new object, tracked, owned or not -/
theorem Ext.new {p : Addr} {o : HO} {m : Option (Lab × Option Str)} (S : Sim0 c H O ρ τ σ) (hp : H p = none) : Ext c (fun _ _ => False) O (O.set p m) H (upd H p o) where
  hF := fun a o u h => by rw [upd_ne (ne_of_none h hp)]; exact h
  hT := fun a xs h => SqT.upd_new hp h
  hL := fun a xs h n => by
    have ne : a ≠ p := ne_of_none h hp
    refine ⟨by rw [upd_ne ne]; exact h, fun q => n ?_⟩
    rcases q with q | q
    · exact .inl q
    · rw [Ow.set_ne ne] at q; exact .inr q
  hO := fun a ℓ o' h _ h2 => by
    have ne : a ≠ p := ne_of_none h2 hp
    exact ⟨by rw [Ow.set_ne ne]; exact h, by rw [upd_ne ne]; exact h2⟩
/-- an owned object is changed -/
theorem Ext.wr {p : Addr} {o u : HO} {m : Option Str} (hp : H p = some u) (hu : Mut (some u)) (ho : O p = some (ℓ, m)) : Ext c (fun l a => l = (ℓ, m) ∧ a = p) O O H (upd H p o) where
  hF := fun a o' u' h => by
    rw [upd_ne]; · exact h
    intro e; subst e; rw [h] at hp; cases hp; exact hu
  hT := fun a xs h => SqT.upd_old hp hu h
  hL := fun a xs h n => by
    have ne : a ≠ p := fun e => by subst e; exact n (.inr (by rw [ho]; simp))
    exact ⟨by rw [upd_ne ne]; exact h, n⟩
  hO := fun a ℓ' o' h n h2 => by
    have ne : a ≠ p := fun e => by subst e; rw [ho] at h; cases h; exact n ⟨rfl, rfl⟩
    exact ⟨h, by rw [upd_ne ne]; exact h2⟩
/-- an owned object is released -/
theorem Ext.free {p : Addr} {m : Option Str} (ho : O p = some (ℓ, m)) : Ext c (fun l a => l = (ℓ, m) ∧ a = p) O (O.set p none) H H where
  hF := fun _ _ _ h => h
  hT := fun _ _ h => h
  hL := fun a xs h n => by
    refine ⟨h, fun q => n ?_⟩
    rcases q with q | q
    · exact .inl q
    · refine .inr fun z => q ?_
      unfold Ow.set
      split
      · rfl
      · exact z
  hO := fun a ℓ' o' h n h2 => by
    have ne : a ≠ p := fun e => by subst e; rw [ho] at h; cases h; exact n ⟨rfl, rfl⟩
    exact ⟨by rw [Ow.set_ne ne]; exact h, h2⟩
/-- an owned object gets another label -/
theorem Ext.lab {p : Addr} {m m' : Option Str} {ℓ' : Lab} (ho : O p = some (ℓ, m)) : Ext c (fun l a => l = (ℓ, m) ∧ a = p) O (O.set p (some (ℓ', m'))) H H where
  hF := fun _ _ _ h => h
  hT := fun _ _ h => h
  hL := fun a xs h n => by
    refine ⟨h, fun q => n ?_⟩
    rcases q with q | q
    · exact .inl q
    · refine .inr fun z => q ?_
      unfold Ow.set
      split
      · rename_i e; subst e; rw [z] at ho; cases ho
      · exact z
  hO := fun a ℓ' o' h n h2 => by
    have ne : a ≠ p := fun e => by subst e; rw [ho] at h; cases h; exact n ⟨rfl, rfl⟩
    exact ⟨by rw [Ow.set_ne ne]; exact h, h2⟩
theorem Ext.refl : Ext c (fun _ _ => False) O O H H := ⟨fun _ _ _ h => h, fun _ _ h => h, fun _ _ h n => ⟨h, n⟩, fun _ _ _ h _ h2 => ⟨h, h2⟩⟩

theorem Sim0.own_none (S : Sim0 c H O ρ τ σ) {p : Addr} (hp : H p = none) : O p = none := by
  cases q : O p with
  | none => rfl
  | some ℓ => have := (S.ow p ℓ q).2.2; rw [hp] at this; exact this.elim
theorem Sim0.h0_none (S : Sim0 c H O ρ τ σ) {p : Addr} (hp : H p = none) : c.H0 p = none ∨ c.I p := by
  cases q : c.H0 p with
  | none => exact .inl rfl
  | some o =>
    by_cases hi : c.I p
    · exact .inr hi
    · have := S.fr p o q hi
      rw [hp] at this; cases this
theorem Sim0.z_none (S : Sim0 c H O ρ τ σ) {p : Addr} (hp : H p = none) : ¬ c.Z p := fun z => S.zt p z hp

theorem TOk.ndrop {σ : St} {v : V} {r : R} {τ : List (V × R)} (h : TOk c H O σ ((v, r) :: τ)) : TOk c H O σ τ := by
  cases r with
  | al i => exact h.2
  | alf i f => exact h.2
  | va ct => exact h.2
theorem Sim0.pop {r : R} (S : Sim0 c H O ρ ((v, r) :: τ) σ) : Sim0 c H O ρ τ σ := ⟨S.len, S.fr, S.ow, S.zt, S.io, S.sl, S.tm.ndrop⟩
theorem Sim.pop {r : R} (S : Sim c ρ ((v, r) :: τ) σ H) : Sim c ρ τ σ H := let ⟨O, S⟩ := S; ⟨O, S.pop⟩
theorem Sim0.push (S : Sim0 c H O ρ τ σ) (h : COk c H O v (.t τ.length) ct) : Sim0 c H O ρ ((v, .va ct) :: τ) σ := ⟨S.len, S.fr, S.ow, S.zt, S.io, S.sl, h, S.tm⟩
theorem Sim.pushFz (S : Sim c ρ τ σ H) {d : D} (h : ∀ A, Rp c.K H A d v) : Sim c ρ ((v, .va (Fz d)) :: τ) σ H := let ⟨O, S⟩ := S; ⟨O, S.push (h _)⟩

/-! ### a view of a result as data -/
def fcD : FC → Option D
  | .fz d => some d
  | .ow l => some (.lst l)
  | .dk _ => none
def ctF (ρ : En) : R → Option FC
  | .al i => match ρ[i]? with
    | some (.at f) => some f
    | _ => none
  | .alf i f => match ρ[i]? with
    | some (.ob _ fs) => fs.lookup f
    | _ => none
  | .va (.at f) => some f
  | .va _ => none
def vw (ρ : En) (r : R) : Option D := (ctF ρ r).bind fcD
theorem FOk.top {m : Lab × Option Str} {f : FC} {d : D} (h : FOk c H O v m f) (e : fcD f = some d) : RpT c.K H (c.av O) d v := by
  cases f with
  | fz d' => cases e; exact Rp.top h
  | ow l =>
    cases e
    obtain ⟨a, vs, rfl, _, ha, r⟩ := h
    exact ⟨a, vs, rfl, ha, r⟩
  | dk _ => cases e
theorem FsOk.get {fs : List (Str × FC)} {vs : List (Str × V)} {f : Str} {fc : FC} (h : FsOk c H O ℓ fs vs) (e : fs.lookup f = some fc) : ∃ v, vs.lookup f = some v ∧ FOk c H O v (ℓ, some f) fc := h.2 f fc e
theorem lookup_keys {α β : Type} : ∀ {fs : List (Str × α)} {vs : List (Str × β)} {f : Str}, vs.map (·.1) = fs.map (·.1) → fs.lookup f = none → vs.lookup f = none
  | [], [], _, _, _ => rfl
  | [], _ :: _, _, h, _ => by cases h
  | _ :: _, [], _, h, _ => by cases h
  | (g, gc) :: fs, (g', v) :: vs, f, h, e => by
    simp only [List.map_cons, List.cons.injEq] at h
    obtain ⟨h1, h2⟩ := h
    subst h1
    cases hb : f == g' with
    | true => rw [List.lookup, hb] at e; cases e
    | false =>
      rw [List.lookup, hb] at e ⊢
      exact lookup_keys h2 e
theorem FsOk.none_get {fs : List (Str × FC)} {vs : List (Str × V)} {f : Str} (h : FsOk c H O ℓ fs vs) (e : fs.lookup f = none) : vs.lookup f = none := lookup_keys h.1 e
theorem FsOk.length {fs : List (Str × FC)} {vs : List (Str × V)} (h : FsOk c H O ℓ fs vs) : vs.length = fs.length := by
  have := congrArg List.length h.1
  simpa using this
/-- where the content of the top temporary lies -/
def rLab (n : Nat) : R → Lab × Option Str
  | .al i => (.s i, none)
  | .alf i f => (.s i, some f)
  | .va _ => (.t n, none)
theorem ctF_al {i : Nat} {f : FC} (e : Pm.ctF ρ (.al i) = some f) : ρ[i]? = some (.at f) := by
  cases q : ρ[i]? with
  | none => simp [Pm.ctF, q] at e
  | some ct => cases ct <;> simp [Pm.ctF, q] at e; rw [e]
theorem ctF_alf {i : Nat} {g : Str} {f : FC} (e : Pm.ctF ρ (.alf i g) = some f) : ∃ nm fs, ρ[i]? = some (.ob nm fs) ∧ fs.lookup g = some f := by
  cases q : ρ[i]? with
  | none => simp [Pm.ctF, q] at e
  | some ct =>
    cases ct with
    | ob nm fs => simp only [Pm.ctF, q] at e; exact ⟨nm, fs, rfl, e⟩
    | _ => simp [Pm.ctF, q] at e
theorem ctF_va {ct : Ct} {f : FC} (e : Pm.ctF ρ (.va ct) = some f) : ct = .at f := by
  cases ct <;> simp [Pm.ctF] at e; rw [e]
theorem Sim0.ctF {r : R} (S : Sim0 c H O ρ ((v, r) :: τ) σ) {f : FC} (e : ctF ρ r = some f) : FOk c H O v (rLab τ.length r) f := by
  cases r with
  | al i =>
    obtain ⟨⟨_, h1⟩, _⟩ := S.tm
    obtain ⟨w, e1, e2⟩ := S.sl i _ (ctF_al e) (by intro z; cases z)
    rw [h1] at e1; cases e1
    exact e2
  | alf i g =>
    obtain ⟨⟨x, C, dx, vfs, _, e1, _, e2, e3⟩, _⟩ := S.tm
    obtain ⟨nm, fs, q, e⟩ := ctF_alf e
    obtain ⟨w, e4, x', dx', C', vfs', rfl, o, k, hx, r⟩ := S.sl i _ q (by intro z; cases z)
    rw [e1] at e4; cases e4
    rw [e2] at hx; cases hx
    obtain ⟨u, e5, e6⟩ := r.get e
    rw [e3] at e5; cases e5
    exact e6
  | va ct =>
    have h := S.tm.1
    rw [ctF_va e] at h
    exact h
theorem Sim0.vw {r : R} (S : Sim0 c H O ρ ((v, r) :: τ) σ) {d : D} (e : vw ρ r = some d) : RpT c.K H (c.av O) d v := by
  unfold Pm.vw at e
  cases q : Pm.ctF ρ r with
  | none => rw [q] at e; cases e
  | some f =>
    rw [q] at e
    exact (S.ctF q).top e
end
end Pm

namespace Pm
open PySem PySem.Spec PyProof.Rows L2
section
variable {c : Cc} {p : Addr} {O O' : Ow} {H H' : Hp} {ρ ρ' : En} {τ : List (V × R)} {σ : St} {v : V} {ℓ : Lab} {ct : Ct}

/-! ### freezing -/
def putA {α : Type} (f : Str) (v : α) : List (Str × α) → List (Str × α)
  | [] => [(f, v)]
  | (g, u) :: r => if f = g then (g, v) :: r else (g, u) :: putA f v r
def fzC (ρ : En) : R → Option (D × En)
  | .al i => match ρ[i]? with
    | some (.at (.fz d)) => some (d, ρ)
    | some (.at (.ow l)) => some (.lst l, ρ.set i (Fz (.lst l)))
    | _ => none
  | .alf i f => match ρ[i]? with
    | some (.ob nm fs) => match fs.lookup f with
      | some (.fz d) => some (d, ρ)
      | some (.ow l) => some (.lst l, ρ.set i (.ob nm (putA f (.fz (.lst l)) fs)))
      | _ => none
    | _ => none
  | .va (.at (.fz d)) => some (d, ρ)
  | .va (.at (.ow l)) => some (.lst l, ρ)
  | .va _ => none
theorem lookup_putA {α : Type} (f g : Str) (v : α) : ∀ {fs : List (Str × α)}, (putA f v fs).lookup g = if g = f then some v else fs.lookup g
  | [] => by
    unfold putA
    by_cases h : g = f
    · subst h; simp [List.lookup]
    · have hb : (g == f) = false := by simpa using h
      rw [if_neg h]
      simp [List.lookup, hb]
  | (k, u) :: r => by
    unfold putA
    by_cases hk : f = k
    · subst hk
      rw [if_pos rfl]
      by_cases h : g = f
      · subst h; simp [List.lookup]
      · have hb : (g == f) = false := by simpa using h
        rw [if_neg h, List.lookup, hb, List.lookup, hb]
    · rw [if_neg hk]
      cases hb : g == k with
      | true =>
        have e : g = k := by simpa using hb
        subst e
        rw [if_neg (fun z => hk z.symm), List.lookup, hb, List.lookup, hb]
      | false =>
        rw [List.lookup, hb, List.lookup, hb]
        exact lookup_putA f g v
theorem keys_putA {α : Type} {f : Str} {v u : α} : ∀ {fs : List (Str × α)}, fs.lookup f = some u → (putA f v fs).map (·.1) = fs.map (·.1)
  | [], h => by cases h
  | (k, w) :: r, h => by
    unfold putA
    by_cases hk : f = k
    · rw [if_pos hk]; rfl
    · rw [if_neg hk]
      have hb : (f == k) = false := by simpa using hk
      rw [List.lookup, hb] at h
      simp only [List.map_cons]
      rw [keys_putA h]
theorem FsOk.put {f : Str} {fc gc : FC} {w : V} {fs : List (Str × FC)} {vs : List (Str × V)} (e : Ext c (fun l a => l = (ℓ, some f) ∧ a = p) O O' H H') (h : FsOk c H O ℓ fs vs) (hl : fs.lookup f = some gc) (hw : vs.lookup f = some w)
    (q : FOk c H' O' w (ℓ, some f) fc) : FsOk c H' O' ℓ (putA f fc fs) vs := by
  refine ⟨by rw [keys_putA hl]; exact h.1, fun g kc z => ?_⟩
  rw [lookup_putA] at z
  by_cases hg : g = f
  · subst hg
    rw [if_pos rfl] at z; cases z
    exact ⟨w, hw, q⟩
  · rw [if_neg hg] at z
    obtain ⟨u, e1, e2⟩ := h.2 g kc z
    exact ⟨u, e1, e2.mono e (by intro a z; cases z.1; exact hg rfl)⟩

theorem av_free {p : Addr} (a : Addr) : c.av (O.set p none) a → c.av O a := by
  rintro (h | h)
  · exact .inl h
  · refine .inr fun z => h ?_
    unfold Ow.set
    split
    · rfl
    · exact z
/-- one slot's content is put anew -/
theorem Sim0.slots_set {m : Option Str} (S : Sim0 c H O ρ τ σ) {i : Nat} (e : Ext c (fun l a => l = (.s i, m) ∧ a = p) O O' H H')
    (hi : ct ≠ .no → ∃ v, σ[i]? = some (some v) ∧ COk c H' O' v (.s i) ct) : ∀ j ct', (ρ.set i ct)[j]? = some ct' → ct' ≠ .no → ∃ v, σ[j]? = some (some v) ∧ COk c H' O' v (.s j) ct' := fun j ct' q n => by
  by_cases hj : j = i
  · subst hj
    by_cases hl : j < ρ.length
    · rw [List.getElem?_set_self hl] at q; cases q; exact hi n
    · rw [List.getElem?_eq_none (by simpa using hl)] at q; cases q
  · rw [List.getElem?_set_ne (Ne.symm hj)] at q
    obtain ⟨v, e1, e2⟩ := S.sl j ct' q n
    exact ⟨v, e1, e2.mono e (by intro m a z; cases z.1; exact hj rfl)⟩
theorem Sim0.ow_free (S : Sim0 c H O ρ τ σ) (p : Addr) : ∀ a ℓ, (O.set p none) a = some ℓ → ¬ c.Z a ∧ (c.H0 a = none ∨ c.I a) ∧ Mut (H a) := fun a ℓ q => by
  unfold Ow.set at q
  split at q
  · cases q
  · exact S.ow a ℓ q
theorem fzC_ok {r : R} {d : D} (S : Sim0 c H O ρ ((v, r) :: τ) σ) (e : fzC ρ r = some (d, ρ')) :
    ∃ O', Sim0 c H O' ρ' τ σ ∧ Rp c.K H (c.av O') d v ∧ ∀ a, c.av O' a → c.av O a := by
  cases r with
  | al i =>
    have hv := S.tm.1.2
    cases q : ρ[i]? with
    | none => simp [fzC, q] at e
    | some ct =>
      cases ct with
      | no => simp [fzC, q] at e
      | ob _ _ => simp [fzC, q] at e
      | «at» f =>
        obtain ⟨w, e1, e2⟩ := S.sl i _ q (by intro z; cases z)
        rw [hv] at e1; cases e1
        cases f with
        | fz d' =>
          simp [fzC, q] at e
          obtain ⟨rfl, rfl⟩ := e
          exact ⟨O, S.pop, e2, fun _ h => h⟩
        | dk _ => simp [fzC, q] at e
        | ow l =>
          simp [fzC, q] at e
          obtain ⟨rfl, rfl⟩ := e
          obtain ⟨a, vs, rfl, o, ha, r⟩ := e2
          have ex := Ext.free (c := c) (H := H) o
          have hr : Rp c.K H (c.av (O.set a none)) (.lst l) (.ref a) := by
            unfold Rp
            refine ⟨a, vs, rfl, ha, ?_, ex.rps r⟩
            rintro (z | z)
            · exact (S.ow a _ o).1 z
            · exact z Ow.set_same
          have S' := S.pop
          refine ⟨O.set a none, ⟨by rw [List.length_set]; exact S.len, S.fr, S.ow_free a, S.zt, S.io, S'.slots_set ex fun _ => ⟨.ref a, hv, hr⟩, S'.tm.mono ex (by intro k m b _ z; cases z.1) (by intro v i f _ x C dx vfs hx z; rw [z.2, ha] at hx; cases hx)⟩, hr, av_free⟩
  | alf i f =>
    obtain ⟨⟨x, C, dx, vfs, _, hx1, ox, hx2, hx3⟩, _⟩ := S.tm
    cases q : ρ[i]? with
    | none => simp [fzC, q] at e
    | some ct =>
      cases ct with
      | no => simp [fzC, q] at e
      | «at» _ => simp [fzC, q] at e
      | ob nm fs =>
        obtain ⟨w, e1, x', dx', C', vfs', rfl, o1, k1, hx', r⟩ := S.sl i _ q (by intro z; cases z)
        rw [hx1] at e1; cases e1
        rw [hx2] at hx'; cases hx'
        simp only [fzC, q] at e
        cases q2 : fs.lookup f with
        | none => rw [q2] at e; cases e
        | some fc =>
          obtain ⟨w, e5, e6⟩ := r.get q2
          rw [hx3] at e5; cases e5
          rw [q2] at e
          cases fc with
          | fz d' => cases e; exact ⟨O, S.pop, e6, fun _ h => h⟩
          | dk _ => cases e
          | ow l =>
            cases e
            obtain ⟨a, vs, rfl, o, ha, rr⟩ := e6
            have ex := Ext.free (c := c) (H := H) o
            have hr : Rp c.K H (c.av (O.set a none)) (.lst l) (.ref a) := by
              unfold Rp
              refine ⟨a, vs, rfl, ha, ?_, ex.rps rr⟩
              rintro (z | z)
              · exact (S.ow a _ o).1 z
              · exact z Ow.set_same
            have S' := S.pop
            have nax : x ≠ a := by intro z; subst z; rw [hx2] at ha; cases ha
            refine ⟨O.set a none, ⟨by rw [List.length_set]; exact S.len, S.fr, S.ow_free a, S.zt, S.io, S'.slots_set ex fun _ => ⟨_, hx1, x, dx, C, vfs, rfl, by rw [Ow.set_ne nax]; exact o1, k1, hx2, r.put ex q2 hx3 hr⟩, S'.tm.mono ex (by intro k m b _ z; cases z.1) (by intro v i f _ x C dx vfs hx z; cases z.1)⟩, hr, av_free⟩
  | va ct =>
    have h1 := S.tm.1
    have S' := S.pop
    cases ct with
    | no => cases e
    | ob _ _ => cases e
    | «at» f =>
      cases f with
      | dk _ => cases e
      | fz d' => cases e; exact ⟨O, S', h1, fun _ h => h⟩
      | ow l =>
        cases e
        obtain ⟨a, vs, rfl, o, ha, rr⟩ := h1
        have ex := Ext.free (c := c) (H := H) o
        have hr : Rp c.K H (c.av (O.set a none)) (.lst l) (.ref a) := by
          unfold Rp
          refine ⟨a, vs, rfl, ha, ?_, ex.rps rr⟩
          rintro (z | z)
          · exact (S.ow a _ o).1 z
          · exact z Ow.set_same
        refine ⟨O.set a none, ⟨S'.len, S'.fr, S'.ow_free a, S'.zt, S'.io, fun i ct' q n => ?_, S'.tm.mono ex (by intro k m b hk z; cases z.1; omega) (by intro v i f _ x C dx vfs hx z; cases z.1)⟩, hr, av_free⟩
        obtain ⟨w, e1, e2⟩ := S'.sl i ct' q n
        exact ⟨w, e1, e2.mono ex (by intro m b z; cases z.1)⟩

/-! ### the list of temporaries of an argument list -/
def tmps (τ : List (V × R)) : List V → List R → List (V × R)
  | v :: vs, r :: rs => tmps ((v, r) :: τ) vs rs
  | _, _ => τ
def fzL (ρ : En) : List R → Option (List D × En)
  | [] => some ([], ρ)
  | r :: rs => match fzL ρ rs with
    | some (ds, ρ1) => match fzC ρ1 r with
      | some (d, ρ2) => some (d :: ds, ρ2)
      | none => none
    | none => none
theorem fzL_ok : ∀ {rs : List R} {vs : List V} {τ : List (V × R)} {ρ ρ' : En} {O : Ow} {ds : List D}, vs.length = rs.length → Sim0 c H O ρ (tmps τ vs rs) σ → fzL ρ rs = some (ds, ρ') →
    ∃ O', Sim0 c H O' ρ' τ σ ∧ Rps c.K H (c.av O') ds vs ∧ ∀ a, c.av O' a → c.av O a
  | [], [], τ, ρ, ρ', O, ds, _, S, e => by cases e; exact ⟨O, S, .nil, fun _ h => h⟩
  | [], _ :: _, _, _, _, _, _, hl, _, _ => by cases hl
  | _ :: _, [], _, _, _, _, _, hl, _, _ => by cases hl
  | r :: rs, v :: vs, τ, ρ, ρ', O, ds, hl, S, e => by
    simp only [fzL] at e
    cases q1 : fzL ρ rs with
    | none => rw [q1] at e; cases e
    | some p =>
      obtain ⟨ds1, ρ1⟩ := p
      rw [q1] at e
      simp only at e
      cases q2 : fzC ρ1 r with
      | none => rw [q2] at e; cases e
      | some p =>
        obtain ⟨d, ρ2⟩ := p
        rw [q2] at e
        cases e
        obtain ⟨O1, S1, R1, m1⟩ := fzL_ok (τ := (v, r) :: τ) (by simpa using hl) S q1
        obtain ⟨O2, S2, R2, m2⟩ := fzC_ok S1 q2
        exact ⟨O2, S2, .cons R2 (Rps.mono (fun _ _ _ h => h) (fun _ _ h => h) (fun a xs h n => ⟨h, fun z => n (m2 a z)⟩) _ _ R1), fun a h => m1 a (m2 a h)⟩

/-! ### readings -/
abbrev EK := (Exn → En → Prop) → St → Prop
abbrev TEp := En → (R → En → Prop) → (Exn → En → Prop) → Prop
abbrev TTp := En → (Bool → En → Prop) → (Exn → En → Prop) → Prop
abbrev TAp := En → (List R → En → Prop) → (Exn → En → Prop) → Prop
structure Ep where
  nx : En → Prop
  rt : R → En → Prop
  bk : En → Prop
  ct : En → Prop
  ex : Exn → En → Prop
abbrev TSp := En → Ep → Prop
def NoAlf (τ : List (V × R)) : Prop := ∀ v i f, (v, R.alf i f) ∉ τ
def rd (c : Cc) (ek : EK) (b : Bool) (T : TEp) : TE := fun σ H Q => ∃ ρ τ R0 E0, Sim c ρ τ σ H ∧ T ρ R0 E0 ∧ (∀ r ρ' v H', R0 r ρ' → Sim c ρ' ((v, r) :: τ) σ H' → Q v H') ∧ ek E0 σ ∧ (b = true → NoAlf τ)
def rdT (c : Cc) (ek : EK) (b : Bool) (T : TTp) : TT := fun σ H Q => ∃ ρ τ R0 E0, Sim c ρ τ σ H ∧ T ρ R0 E0 ∧ (∀ b ρ' H', R0 b ρ' → Sim c ρ' τ σ H' → Q b H') ∧ ek E0 σ ∧ (b = true → NoAlf τ)
def rdA (c : Cc) (ek : EK) (b : Bool) (T : TAp) : TA := fun σ H Q => ∃ ρ τ R0 E0, Sim c ρ τ σ H ∧ T ρ R0 E0 ∧ (∀ rs ρ' vs H', R0 rs ρ' → vs.length = rs.length → Sim c ρ' (tmps τ vs rs) σ H' → Q vs H') ∧ ek E0 σ ∧ (b = true → NoAlf τ)
def nA (r : R) (k : Prop) : Prop := match r with
  | .alf _ _ => False
  | _ => k
theorem nA.of {r : R} {k : Prop} {v : V} {τ : List (V × R)} (h : nA r k) : k ∧ (NoAlf τ → NoAlf ((v, r) :: τ)) := by
  cases r with
  | alf i f => exact h.elim
  | al i =>
    refine ⟨h, fun n w j f m => ?_⟩
    rcases List.mem_cons.mp m with e | m
    · cases e
    · exact n w j f m
  | va ct =>
    refine ⟨h, fun n w j f m => ?_⟩
    rcases List.mem_cons.mp m with e | m
    · cases e
    · exact n w j f m
def NoAl (τ : List (V × R)) : Prop := ∀ v r, (v, r) ∈ τ → ∃ ct, r = .va ct
def rdS (c : Cc) (ek : EK) (T : TSp) : TS := fun D σ H => ∃ ρ τ E, Sim c ρ τ σ H ∧ NoAl τ ∧ T ρ E ∧ (∀ ρ' σ' H', E.nx ρ' → Sim c ρ' τ σ' H' → D.nx σ' H') ∧ (∀ ρ' σ' H', E.bk ρ' → Sim c ρ' τ σ' H' → D.bk σ' H') ∧
  (∀ ρ' σ' H', E.ct ρ' → Sim c ρ' τ σ' H' → D.ct σ' H') ∧ (∀ r ρ' v σ' H', E.rt r ρ' → Sim c ρ' ((v, r) :: τ) σ' H' → D.rt v H') ∧ ∀ σ', ek E.ex σ'
abbrev PEp (c : Cc) (ek : EK) (b : Bool) (X : Cx) (e : Expr) (T : TEp) : Prop := PE X e (rd c ek b T)
abbrev PTp (c : Cc) (ek : EK) (b : Bool) (X : Cx) (e : Expr) (T : TTp) : Prop := PT X e (rdT c ek b T)
abbrev PWp (c : Cc) (ek : EK) (b : Bool) (X : Cx) (e : Expr) (T : TTp) : Prop := PW X e (rdT c ek b T)
abbrev PAp (c : Cc) (ek : EK) (b : Bool) (X : Cx) (e : List Expr) (T : TAp) : Prop := PA X e (rdA c ek b T)
abbrev PSp (c : Cc) (ek : EK) (X : Cx) (s : Stmt) (T : TSp) : Prop := PS X s (rdS c ek T)
abbrev PSsp (c : Cc) (ek : EK) (X : Cx) (s : List Stmt) (T : TSp) : Prop := PSs X s (rdS c ek T)
end
end Pm

namespace Pm
open PySem PySem.Spec PyProof.Rows L2
section
variable {c : Cc} {O O' : Ow} {H H' : Hp} {ρ ρ' : En} {τ : List (V × R)} {σ : St} {v : V} {ℓ : Lab} {ct : Ct}

/-! ### new objects -/
theorem Sim0.new {p : Addr} {o : HO} {m : Option (Lab × Option Str)} (S : Sim0 c H O ρ τ σ) (hp : H p = none) (hm : m ≠ none → Mut (some o)) : Sim0 c (upd H p o) (O.set p m) ρ τ σ := by
  have ex := Ext.new (o := o) (m := m) S hp
  refine ⟨S.len, fun a u h n => ?_, fun a ℓ q => ?_, fun a z => ?_, S.io, fun i ct q n => ?_, S.tm.mono ex (fun _ _ _ _ h => h) (fun _ _ _ _ _ _ _ _ _ h => h)⟩
  · have := S.fr a u h n
    rw [upd_ne (ne_of_none this hp)]; exact this
  · by_cases ha : a = p
    · subst ha
      exact ⟨S.z_none hp, S.h0_none hp, by rw [upd_same]; exact hm (by intro z; rw [Ow.set_same, z] at q; cases q)⟩
    · rw [Ow.set_ne ha] at q
      rw [upd_ne ha]
      exact S.ow a ℓ q
  · have := S.zt a z
    rw [upd_ne]
    · exact this
    · intro e; subst e; exact this hp
  · obtain ⟨w, e1, e2⟩ := S.sl i ct q n
    exact ⟨w, e1, e2.mono ex (fun _ _ h => h)⟩
theorem Sim0.newLst {p : Addr} {l : List D} {vs : List V} (S : Sim0 c H O ρ τ σ) (hp : H p = none) (r : Rps c.K H (c.av O) l vs) : Sim c ρ ((.ref p, .va (Wl l)) :: τ) σ (upd H p (.lst vs)) := by
  have ex := Ext.new (o := .lst vs) (m := some (Lab.t τ.length, none)) S hp
  refine ⟨O.set p (some (.t τ.length, none)), (S.new (o := .lst vs) hp fun _ => True.intro).push ?_⟩
  exact ⟨p, vs, rfl, Ow.set_same, upd_same, ex.rps r⟩
theorem Sim0.newTup {p : Addr} {l : List D} {vs : List V} (S : Sim0 c H O ρ τ σ) (hp : H p = none) (r : Rps c.K H (c.av O) l vs) : Sim c ρ ((.ref p, .va (Fz (.tup l))) :: τ) σ (upd H p (.tup vs)) := by
  have ex := Ext.new (o := .tup vs) (m := none) S hp
  refine ⟨O.set p none, (S.new (o := .tup vs) hp fun z => absurd rfl z).push ?_⟩
  show Rp _ _ _ _ _
  unfold Rp
  exact ⟨p, vs, rfl, SqT.of upd_same, ex.rps r⟩

theorem RpT.int {K : PySem.W.Frag} {A : Av} {i : Int} (h : RpT K H A (.int i) v) : v = .int i := by unfold RpT at h; unfold Rp at h; exact h
theorem RpT.str {K : PySem.W.Frag} {A : Av} {i : Str} (h : RpT K H A (.str i) v) : v = .str i := by unfold RpT at h; unfold Rp at h; exact h
theorem RpT.bl {K : PySem.W.Frag} {A : Av} {i : Bool} (h : RpT K H A (.bl i) v) : v = .bl i := by unfold RpT at h; unfold Rp at h; exact h
theorem RpT.non {K : PySem.W.Frag} {A : Av} (h : RpT K H A .non v) : v = .non := by unfold RpT at h; unfold Rp at h; exact h
theorem RpT.tup {K : PySem.W.Frag} {A : Av} {l : List D} (h : RpT K H A (.tup l) v) : ∃ a vs, v = .ref a ∧ SqT K H a vs ∧ Rps K H A l vs := by unfold RpT at h; unfold Rp at h; exact h
theorem RpT.lst {K : PySem.W.Frag} {A : Av} {l : List D} (h : RpT K H A (.lst l) v) : ∃ a vs, v = .ref a ∧ H a = some (.lst vs) ∧ Rps K H A l vs := h
theorem RpT.scr {K : PySem.W.Frag} {A : Av} {ns : List Int} (h : RpT K H A (.scr ns) v) : ∃ a, v = .ref a ∧ ((∃ o, H a = some (.frz o (.lst (ns.map V.int)))) ∨ SqL K (fun _ => none) a (ns.map V.int)) := by unfold RpT at h; unfold Rp at h; exact h
theorem Rp.int {K : PySem.W.Frag} {A : Av} {i : Int} (h : Rp K H A (.int i) v) : v = .int i := by unfold Rp at h; exact h
theorem Rp.ofInt {K : PySem.W.Frag} {A : Av} (i : Int) : Rp K H A (.int i) (.int i) := by unfold Rp; rfl
theorem Rp.ofStr {K : PySem.W.Frag} {A : Av} (i : Str) : Rp K H A (.str i) (.str i) := by unfold Rp; rfl
theorem Rp.ofBl {K : PySem.W.Frag} {A : Av} (i : Bool) : Rp K H A (.bl i) (.bl i) := by unfold Rp; rfl
theorem Rp.ofNon {K : PySem.W.Frag} {A : Av} : Rp K H A .non .non := by unfold Rp; rfl

/-- two temporaries read -/
theorem Sim0.vw2 {x y : V} {ra rb : R} {dx dy : D} (S : Sim0 c H O ρ ((y, rb) :: (x, ra) :: τ) σ) (ex : Pm.vw ρ ra = some dx) (ey : Pm.vw ρ rb = some dy) : RpT c.K H (c.av O) dx x ∧ RpT c.K H (c.av O) dy y := ⟨S.pop.vw ex, S.vw ey⟩
def wD (o : Option D) (k : D → Prop) : Prop := match o with
  | some d => k d
  | none => False
theorem wD.of {o : Option D} {k : D → Prop} (h : wD o k) : ∃ d, o = some d ∧ k d := by
  cases o with
  | none => exact h.elim
  | some d => exact ⟨d, rfl, h⟩

/-! ### data as the library's data -/
mutual
def D.py : D → PyData
  | .non => .none
  | .bl b => .bool b
  | .int i => .int i
  | .str x => .str x
  | .tup l => .tuple (D.pys l)
  | .lst l => .list (D.pys l)
  | .scr ns => .list (ns.map .int)
def D.pys : List D → List PyData
  | [] => []
  | d :: ds => d.py :: D.pys ds
end
theorem dp_ints {K : PySem.W.Frag} : ∀ ns : List Int, DpAll K H (ns.map V.int) (ns.map PyData.int)
  | [] => .nil
  | n :: ns => .cons (.int n) (dp_ints ns)
theorem scr_sq {K : PySem.W.Frag} {a : Addr} {xs : List V} (q : (∃ o, H a = some (.frz o (.lst xs))) ∨ SqL K (fun _ => none) a xs) : SqL K H a xs := by
  rcases q with ⟨o, q⟩ | (z | ⟨o, z⟩) | z
  · exact .inl (.inr ⟨o, q⟩)
  · cases z
  · cases z
  · exact .inr z
mutual
theorem Rp.dp {K : PySem.W.Frag} {A : Av} : ∀ (d : D) (v : V), Rp K H A d v → Dp K H v d.py
  | .non, v, h => by unfold Rp at h; subst h; unfold D.py; exact .non
  | .bl b, v, h => by unfold Rp at h; subst h; unfold D.py; exact .bl b
  | .int i, v, h => by unfold Rp at h; subst h; unfold D.py; exact .int i
  | .str x, v, h => by unfold Rp at h; subst h; unfold D.py; exact .str x
  | .tup l, v, h => by
    unfold Rp at h
    obtain ⟨a, vs, rfl, q, r⟩ := h
    unfold D.py
    exact .tup q (Rps.dp l vs r)
  | .lst l, v, h => by
    unfold Rp at h
    obtain ⟨a, vs, rfl, q, _, r⟩ := h
    unfold D.py
    exact .lst (SqL.of q) (Rps.dp l vs r)
  | .scr ns, v, h => by
    unfold Rp at h
    obtain ⟨a, rfl, q⟩ := h
    unfold D.py
    exact .lst (scr_sq q) (dp_ints ns)
theorem Rps.dp {K : PySem.W.Frag} {A : Av} : ∀ (l : List D) (vs : List V), Rps K H A l vs → DpAll K H vs (D.pys l)
  | [], vs, h => by unfold Rps at h; subst h; unfold D.pys; exact .nil
  | d :: ds, vs, h => by
    unfold Rps at h
    obtain ⟨v, r, rfl, h1, h2⟩ := h
    unfold D.pys
    exact .cons (Rp.dp d v h1) (Rps.dp ds r h2)
end
theorem RpT.dp {K : PySem.W.Frag} {A : Av} {d : D} {v : V} (h : RpT K H A d v) : Dp K H v d.py := by
  cases d with
  | lst l =>
    obtain ⟨a, vs, rfl, q, r⟩ := h
    unfold D.py
    exact .lst (SqL.of q) (Rps.dp l vs r)
  | _ => exact Rp.dp (A := A) _ v h
def shp (d : D) : Prop := SeqAt.shaped d.py = true
def eqD (a b : D) : Bool := PyData.eqv a.py b.py

/-! ### operators by values -/
def DivOk (j : Int) : Prop := j ≠ 0 ∧ j.natAbs.log2 < 9000
def MulOk (i j : Int) : Prop := i.natAbs.log2 + j.natAbs.log2 < 1000000
def opB : Operator → D → D → (Ct → Prop) → Prop
  | .Add, .int i, .int j, Q => Q (Fz (.int (i + j)))
  | .Add, .str a, .str b, Q => a.length + b.length ≤ sizeLine ∧ Q (Fz (.str (a ++ b)))
  | .Add, .lst l, .lst m, Q => l.length + m.length ≤ sizeLine ∧ Q (Wl (l ++ m))
  | .Add, .tup l, .tup m, Q => l.length + m.length ≤ sizeLine ∧ Q (Fz (.tup (l ++ m)))
  | .Sub, .int i, .int j, Q => Q (Fz (.int (i - j)))
  | .Mult, .int i, .int j, Q => MulOk i j ∧ Q (Fz (.int (i * j)))
  | .FloorDiv, .int i, .int j, Q => DivOk j ∧ Q (Fz (.int (Int.fdiv i j)))
  | .Mod, .int i, .int j, Q => j ≠ 0 ∧ Q (Fz (.int (Int.fmod i j)))
  | .Pow, .int i, .int j, Q => (0 ≤ j ∧ j ≤ 1000000 ∧ i.natAbs < 2 ^ 64) ∧ Q (Fz (.int (i ^ j.toNat)))
  | _, _, _, _ => False
def OpOk (c : Cc) (X : Cx) (f : Value → Value → Sem Value) (opT : D → D → (Ct → Prop) → Prop) : Prop :=
  ∀ (pins : List (Addr × Obj)) (s : Shared) (σ : St) (H : Hp) (Q : VK) (ρ : En) (τ : List (V × R)) (x y : V) (v u : Value) (ra rb : R) (dx dy : D) (R0 : Ct → Prop), Inv X pins σ H s → RelV x v → RelV y u →
    Sim c ρ ((y, rb) :: (x, ra) :: τ) σ H → vw ρ ra = some dx → vw ρ rb = some dy → opT dx dy R0 → (∀ ct w H', R0 ct → Sim c ρ ((w, .va ct) :: τ) σ H' → Q w H') → wpAny (model X.prog X.w) X.A (f v u) (EP X pins σ Q) X.xe s
variable {X : Cx} {ek : EK} {fl : Bool}
theorem op_fdivX : OpR X (binaryOp .FloorDiv) (rI (fun _ j => DivOk j) fun i j => .int (i.fdiv j)) := opI fun _ _ _ _ _ _ _ hc q => floordiv_int hc.1 q (.inl (PyProof.noPylong_of_log2 hc.2))
theorem Sim.pop2 {x y : V} {ra rb : R} (S : Sim c ρ ((y, rb) :: (x, ra) :: τ) σ H) : Sim c ρ τ σ H := S.pop.pop
theorem opB_ok (hK : X.K = c.K) (op : Operator) : OpOk c X (binaryOp op) (opB op) := by
  intro pins s σ H Q ρ τ x y v u ra rb dx dy R0 I rx ry S ex ey h q
  obtain ⟨O, S0⟩ := S
  obtain ⟨hx, hy⟩ := S0.vw2 ex ey
  have S2 : Sim c ρ τ σ H := ⟨O, S0.pop.pop⟩
  have ii : ∀ k : Int, R0 (Fz (.int k)) → Q (.int k) H := fun k r => q _ _ _ r (S2.pushFz fun A => Rp.ofInt k)
  unfold opB at h
  split at h
  · cases hx.int; cases hy.int
    exact op_add pins s σ H _ _ v u Q I rx ry ⟨_, _, rfl, rfl, ii _ h⟩
  · cases hx.str; cases hy.str
    exact op_add_str pins s σ H _ _ v u Q I rx ry ⟨_, _, rfl, rfl, h.1, q _ _ _ h.2 (S2.pushFz fun A => Rp.ofStr _)⟩
  · obtain ⟨a, vs, rfl, ha, ra⟩ := hx.lst
    obtain ⟨b, ws, rfl, hb, rb⟩ := hy.lst
    refine op_cat pins s σ H _ _ v u Q I rx ry ⟨a, b, vs, ws, rfl, rfl, ha, hb, by rw [ra.length, rb.length]; exact h.1, fun p hp => ?_⟩
    exact q _ _ _ h.2 (S0.pop.pop.newLst hp (ra.app rb))
  · obtain ⟨a, vs, rfl, ha, ra⟩ := hx.tup
    obtain ⟨b, ws, rfl, hb, rb⟩ := hy.tup
    rw [← hK] at ha hb
    have l1 := ra.length
    have l2 := rb.length
    refine op_catA pins s σ H _ _ v u Q I rx ry ⟨a, b, vs, ws, rfl, rfl, ha, hb, by rw [l1, l2]; exact h.1, fun z => ?_, fun _ z => ?_, fun _ _ p hp => q _ _ _ h.2 (S0.pop.pop.newTup hp (ra.app rb))⟩
    · have hl := List.eq_nil_of_length_eq_zero (l1.symm.trans (congrArg List.length z))
      refine q _ _ _ h.2 ⟨O, S0.pop.pop.push ?_⟩
      rw [hl, List.nil_append]
      unfold COk FOk Rp; exact ⟨b, ws, rfl, by rw [← hK]; exact hb, rb⟩
    · have hl := List.eq_nil_of_length_eq_zero (l2.symm.trans (congrArg List.length z))
      refine q _ _ _ h.2 ⟨O, S0.pop.pop.push ?_⟩
      rw [hl, List.append_nil]
      unfold COk FOk Rp; exact ⟨a, vs, rfl, by rw [← hK]; exact ha, ra⟩
  · cases hx.int; cases hy.int
    exact op_sub pins s σ H _ _ v u Q I rx ry ⟨_, _, rfl, rfl, ii _ h⟩
  · cases hx.int; cases hy.int
    exact op_mulW pins s σ H _ _ v u Q I rx ry ⟨_, _, rfl, rfl, h.1, ii _ h.2⟩
  · cases hx.int; cases hy.int
    exact op_fdivX pins s σ H _ _ v u Q I rx ry ⟨_, _, rfl, rfl, h.1, ii _ h.2⟩
  · cases hx.int; cases hy.int
    exact op_modN pins s σ H _ _ v u Q I rx ry ⟨_, _, rfl, rfl, h.1, ii _ h.2⟩
  · cases hx.int; cases hy.int
    exact op_pow pins s σ H _ _ v u Q I rx ry ⟨_, _, rfl, rfl, h.1, ii _ h.2⟩
  · exact h.elim

/-! ### expressions -/
variable {a b e : Expr} {Ta Tb : TEp} {pos : Pos}
def tNm (i : Nat) : TEp := fun ρ R _ => match ρ[i]? with
  | some (.at (.fz d)) => R (.va (Fz d)) ρ
  | some .no => False
  | some _ => R (.al i) ρ
  | none => False
theorem Sim.name (S : Sim c ρ τ σ H) {i : Nat} (hb : i < c.nb) {R0 : R → En → Prop} {E0 : Exn → En → Prop} (h : tNm i ρ R0 E0) : ∃ v r, σ[i]? = some (some v) ∧ R0 r ρ ∧ Sim c ρ ((v, r) :: τ) σ H := by
  obtain ⟨O, S⟩ := S
  unfold tNm at h
  cases q : ρ[i]? with
  | none => rw [q] at h; exact h.elim
  | some ct =>
    rw [q] at h
    cases ct with
    | no => exact h.elim
    | ob nm fs =>
      obtain ⟨v, e1, e2⟩ := S.sl i _ q (by intro z; cases z)
      exact ⟨v, _, e1, h, O, ⟨S.len, S.fr, S.ow, S.zt, S.io, S.sl, ⟨hb, e1⟩, S.tm⟩⟩
    | «at» f =>
      obtain ⟨v, e1, e2⟩ := S.sl i _ q (by intro z; cases z)
      cases f with
      | fz d => exact ⟨v, _, e1, h, O, S.push e2⟩
      | ow l => exact ⟨v, _, e1, h, O, ⟨S.len, S.fr, S.ow, S.zt, S.io, S.sl, ⟨hb, e1⟩, S.tm⟩⟩
      | dk kvs => exact ⟨v, _, e1, h, O, ⟨S.len, S.fr, S.ow, S.zt, S.io, S.sl, ⟨hb, e1⟩, S.tm⟩⟩
theorem p_nm (i : Nat) {x : Str} (hb : i < c.nb) (hN : X.N[i]? = some x := by rfl) (hv : Vis X.env.scope x := by first | exact Or.inl rfl | exact Or.inr (Or.inl rfl) | exact Or.inr (Or.inr rfl)) (hd : (x == ("__debug__" : Str)) = false := by decide)
    (hcd : (x == ("__classdict__" : Str)) = false := by decide) : PEp c ek fl X (.Name x pos) (tNm i) := by
  refine ⟨fun pins s σ H Q I h => ?_⟩
  obtain ⟨ρ, τ, R0, E0, S, hT, hQ, hE⟩ := h
  obtain ⟨v, r, e, h1, S1⟩ := S.name hb hT
  exact (pe_var hN hv hd hcd).run pins s σ H Q I ⟨v, e, hQ _ _ _ _ h1 S1⟩
/-- a comprehension's own name -/
def tNmC (i : Nat) : TEp := fun ρ R _ => match ρ[i]? with
  | some (.at (.fz d)) => R (.va (Fz d)) ρ
  | _ => False
theorem p_nmC (i : Nat) {x : Str} (hN : X.N[i]? = some x := by rfl) (hv : Vis X.env.scope x := by first | exact Or.inl rfl | exact Or.inr (Or.inl rfl) | exact Or.inr (Or.inr rfl)) (hd : (x == ("__debug__" : Str)) = false := by decide)
    (hcd : (x == ("__classdict__" : Str)) = false := by decide) : PEp c ek fl X (.Name x pos) (tNmC i) := by
  refine ⟨fun pins s σ H Q I h => ?_⟩
  obtain ⟨ρ, τ, R0, E0, ⟨O, S⟩, hT, hQ, hE⟩ := h
  unfold tNmC at hT
  split at hT
  · rename_i d q
    obtain ⟨v, e1, e2⟩ := S.sl i _ q (by intro z; cases z)
    exact (pe_var hN hv hd hcd).run pins s σ H Q I ⟨v, e1, hQ _ _ _ _ hT ⟨O, S.push e2⟩⟩
  · exact hT.elim
def tK (d : D) : TEp := fun ρ R _ => R (.va (Fz d)) ρ
theorem p_of {d : D} {x : V} (h : PE X e (tC x)) (r : ∀ H A, Rp c.K H A d x) : PEp c ek fl X e (tK d) := by
  refine ⟨fun pins s σ H Q I h' => ?_⟩
  obtain ⟨ρ, τ, R0, E0, S, hT, hQ, hE⟩ := h'
  exact h.run pins s σ H Q I (hQ _ _ _ _ hT (S.pushFz (r H)))
theorem p_int {i : Int} {j : Nat} : PEp c ek fl X (.Constant (.int i) j pos) (tK (.int i)) := p_of pe_int fun _ _ => Rp.ofInt i
theorem p_bl {i : Bool} {j : Nat} : PEp c ek fl X (.Constant (.bool i) j pos) (tK (.bl i)) := p_of pe_bl fun _ _ => Rp.ofBl i
theorem p_str {i : Str} {j : Nat} : PEp c ek fl X (.Constant (.str i) j pos) (tK (.str i)) := p_of pe_str fun _ _ => Rp.ofStr i
theorem p_non {j : Nat} : PEp c ek fl X (.Constant .none j pos) (tK .non) := p_of pe_non fun _ _ => Rp.ofNon
theorem p_glob {x : Str} {d : D} {v : V} {u : Value} (hg : Gl X x) (hm : X.mg x = some u) (r : RelV v u) (hd : ∀ H A, Rp c.K H A d v) (hdb : (x == ("__debug__" : Str)) = false := by decide) : PEp c ek fl X (.Name x pos) (tK d) := p_of (pe_glob hg hm r hdb) hd

def tBin (opT : D → D → (Ct → Prop) → Prop) (Ta Tb : TEp) : TEp := fun ρ R E => Ta ρ (fun ra ρ1 => nA ra <| Tb ρ1 (fun rb ρ2 => wD (vw ρ2 ra) fun x => wD (vw ρ2 rb) fun y => opT x y fun ct => R (.va ct) ρ2) E) E
theorem bin_run {opT : D → D → (Ct → Prop) → Prop} {f : Value → Value → Sem Value} (ho : OpOk c X f opT) (ha : PEp c ek fl X a Ta) (hb : PEp c ek fl X b Tb) {pins : List (Addr × Obj)} {s : Shared} {Q : VK} (I : Inv X pins σ H s) (h : rd c ek fl (tBin opT Ta Tb) σ H Q) :
    wpAny (model X.prog X.w) X.A (eval a X.env) (fun v s₁ => wpAny (model X.prog X.w) X.A (eval b X.env) (fun u s₂ => wpAny (model X.prog X.w) X.A (f v u) (EP X pins σ Q) X.xe s₂) X.xe s₁) X.xe s := by
  obtain ⟨ρ, τ, R0, E0, S, hT, hQ, hE⟩ := h
  refine bin ha hb I (R := fun x y H2 => ∃ ρ2 ra rb, Sim c ρ2 ((y, rb) :: (x, ra) :: τ) σ H2 ∧ wD (vw ρ2 ra) fun dx => wD (vw ρ2 rb) fun dy => opT dx dy (fun ct => R0 (.va ct) ρ2)) ?_ fun v u s2 x y H2 I2 rx ry q => ?_
  · exact ⟨ρ, τ, _, E0, S, hT, fun ra ρ1 x H1 h1 S1 => let ⟨h1, n⟩ := h1.of; ⟨ρ1, _, _, E0, S1, h1, fun rb ρ2 y H2 h2 S2 => ⟨ρ2, ra, rb, S2, h2⟩, hE.1, fun z => n (hE.2 z)⟩, hE⟩
  · obtain ⟨ρ2, ra, rb, S2, q⟩ := q
    obtain ⟨dx, ex, q⟩ := q.of
    obtain ⟨dy, ey, q⟩ := q.of
    exact ho pins s2 σ H2 Q ρ2 τ x y v u ra rb dx dy _ I2 rx ry S2 ex ey q fun ct w H' h1 S' => hQ _ _ _ _ h1 S'
theorem p_op {op : Operator} (ha : PEp c ek fl X a Ta) (hb : PEp c ek fl X b Tb) (hK : X.K = c.K := by rfl) : PEp c ek fl X (.BinOp a op b pos) (tBin (opB op) Ta Tb) :=
  ⟨fun pins s σ H Q I h => wpAny_BinOp (bin_run (opB_ok hK op) ha hb I h)⟩

/-! ### comparisons -/
def isNon : D → Bool
  | .non => true
  | _ => false
def opC (op : CmpOp) (x y : D) (Q : Bool → Prop) : Prop := match op, x, y with
  | .Lt, .int i, .int j => Q (decide (i < j))
  | .LtE, .int i, .int j => Q (decide (i ≤ j))
  | .Gt, .int i, .int j => Q (decide (j < i))
  | .GtE, .int i, .int j => Q (decide (j ≤ i))
  | .Eq, .str a, .str b => Q (decide (a = b))
  | .NotEq, .str a, .str b => Q (!decide (a = b))
  | .Eq, x, y => shp x ∧ shp y ∧ Q (eqD x y)
  | .NotEq, x, y => shp x ∧ shp y ∧ Q (!eqD x y)
  | .Is, x, .non => Q (isNon x)
  | .IsNot, x, .non => Q (!isNon x)
  | .In, x, .lst l => shp x ∧ shp (.lst l) ∧ Q (l.any fun z => eqD z x)
  | .NotIn, x, .lst l => shp x ∧ shp (.lst l) ∧ Q (!l.any fun z => eqD z x)
  | .In, .str a, .str b => Q (!(Builtin.Str.occurrences b a 0 b.length 1).isEmpty)
  | .NotIn, .str a, .str b => Q (!(!(Builtin.Str.occurrences b a 0 b.length 1).isEmpty))
  | .In, .str a, .tup l => ∃ ss : List Str, l = ss.map .str ∧ Q (decide (a ∈ ss))
  | .NotIn, .str a, .tup l => ∃ ss : List Str, l = ss.map .str ∧ Q (!decide (a ∈ ss))
  | _, _, _ => False
theorem rps_strs {K : PySem.W.Frag} {A : Av} : ∀ {ss : List Str} {vs : List V}, Rps K H A (ss.map .str) vs → vs = ss.map V.str
  | [], vs, h => by rw [List.map_nil] at h; unfold Rps at h; subst h; rfl
  | x :: ss, vs, h => by
    rw [List.map_cons] at h
    unfold Rps at h
    obtain ⟨v, w, rfl, h1, h2⟩ := h
    rw [rps_strs h2, h1.top.str]; rfl
theorem inV_strs {a : Str} : ∀ ss : List Str, inV (V.str a) (ss.map V.str) = decide (a ∈ ss)
  | [] => by simp [inV]
  | x :: ss => by
    have ih := inV_strs (a := a) ss
    unfold inV at ih ⊢
    rw [List.map_cons, List.any_cons, ih]
    show (eqV (V.str x) (V.str a) || _) = _
    have e : eqV (V.str x) (V.str a) = decide (a = x) := by
      show (x == a) = _
      by_cases h : a = x
      · subst h; simp
      · rw [decide_eq_false h]; simp; exact fun z => h z.symm
    rw [e]
    by_cases h1 : a = x <;> by_cases h2 : a ∈ ss <;> simp [h1, h2]
theorem flat_strV (ss : List Str) : (ss.map V.str).all flatV = true := by
  rw [List.all_map]
  exact List.all_eq_true.mpr fun _ _ => rfl
theorem opC_mono {op : CmpOp} {x y : D} {Q Q' : Bool → Prop} (h : ∀ b, Q b → Q' b) (q : opC op x y Q) : opC op x y Q' := by
  unfold opC at q ⊢
  split at q <;> first | exact h _ q | exact ⟨q.1, q.2.1, h _ q.2.2⟩ | exact q.imp (fun _ z => ⟨z.1, h _ z.2⟩) | exact q.elim
theorem any_pys (x : D) : ∀ l : List D, (D.pys l).any (fun z => PyData.eqv z x.py) = l.any fun z => eqD z x
  | [] => by unfold D.pys; rfl
  | d :: ds => by
    unfold D.pys
    simp only [List.any_cons]
    rw [any_pys x ds]; rfl
theorem non_iff {K : PySem.W.Frag} {A : Av} {d : D} (h : RpT K H A d v) : decide (v = .non) = isNon d := by
  cases d with
  | non => rw [h.non]; rfl
  | bl b => rw [h.bl]; rfl
  | int b => rw [h.int]; rfl
  | str b => rw [h.str]; rfl
  | tup b => obtain ⟨a, vs, rfl, _⟩ := h.tup; rfl
  | lst b => obtain ⟨a, vs, rfl, _⟩ := h.lst; rfl
  | scr b => obtain ⟨a, rfl, _⟩ := h.scr; rfl
theorem str_dec {x y : Str} : decide (V.str x = V.str y) = decide (x = y) := decide_eq_decide.mpr ⟨fun z => by cases z; rfl, fun z => by rw [z]⟩
theorem opC_ok (hK : X.K = c.K) (hu : X.A.units + 65 < cLine) (op : CmpOp) : OpOk c X (compareOp op) (fun x y Q => opC op x y fun b => Q (Fz (.bl b))) := by
  intro pins s σ H Q ρ τ x y v u ra rb dx dy R0 I rx ry S ex ey h q
  obtain ⟨O, S0⟩ := S
  obtain ⟨hx, hy⟩ := S0.vw2 ex ey
  have S2 : Sim c ρ τ σ H := ⟨O, S0.pop.pop⟩
  have bb : ∀ k : Bool, R0 (Fz (.bl k)) → Q (.bl k) H := fun k r => q _ _ _ r (S2.pushFz fun A => Rp.ofBl k)
  have h : opC op dx dy (fun b => R0 (Fz (.bl b))) := h
  have dx' : Dp X.K H x dx.py := by rw [hK]; exact hx.dp
  have dy' : Dp X.K H y dy.py := by rw [hK]; exact hy.dp
  unfold opC at h
  split at h
  · cases hx.int; cases hy.int
    exact op_lt pins s σ H _ _ v u Q I rx ry ⟨_, _, rfl, rfl, bb _ h⟩
  · cases hx.int; cases hy.int
    exact op_le pins s σ H _ _ v u Q I rx ry ⟨_, _, rfl, rfl, bb _ h⟩
  · cases hx.int; cases hy.int
    exact op_gt pins s σ H _ _ v u Q I rx ry ⟨_, _, rfl, rfl, bb _ h⟩
  · cases hx.int; cases hy.int
    exact op_ge pins s σ H _ _ v u Q I rx ry ⟨_, _, rfl, rfl, bb _ h⟩
  · cases hx.str; cases hy.str
    have e := @str_dec
    exact op_eq pins s σ H _ _ v u Q I rx ry ⟨rfl, by rw [e]; exact bb _ h⟩
  · cases hx.str; cases hy.str
    have e := @str_dec
    exact op_ne pins s σ H _ _ v u Q I rx ry ⟨rfl, by rw [e]; exact bb _ h⟩
  · exact op_eqD (by omega) pins s σ H _ _ v u Q I rx ry ⟨_, _, dx', dy', h.1, h.2.1, bb _ h.2.2⟩
  · exact op_neD (by omega) pins s σ H _ _ v u Q I rx ry ⟨_, _, dx', dy', h.1, h.2.1, bb _ h.2.2⟩
  · refine op_isN pins s σ H _ _ v u Q I rx ry ⟨hy.non, ?_⟩
    rw [non_iff hx]; exact bb _ h
  · refine op_notN pins s σ H _ _ v u Q I rx ry ⟨hy.non, ?_⟩
    rw [non_iff hx]; exact bb _ h
  · rename_i l _
    have dy'' : Dp X.K H y (.list (D.pys l)) := by have := dy'; unfold D.py at this; exact this
    have h2 := h.2.1
    unfold shp D.py at h2
    refine op_inD hu pins s σ H _ _ v u Q I rx ry ⟨_, _, dx', dy'', h.1, h2, ?_⟩
    rw [any_pys]; exact bb _ h.2.2
  · rename_i l _
    have dy'' : Dp X.K H y (.list (D.pys l)) := by have := dy'; unfold D.py at this; exact this
    have h2 := h.2.1
    unfold shp D.py at h2
    refine op_notInD hu pins s σ H _ _ v u Q I rx ry ⟨_, _, dx', dy'', h.1, h2, ?_⟩
    rw [any_pys]; exact bb _ h.2.2
  · cases hx.str; cases hy.str
    exact op_in_str pins s σ H _ _ v u Q I rx ry ⟨_, _, rfl, rfl, bb _ h⟩
  · cases hx.str; cases hy.str
    exact op_notin_str pins s σ H _ _ v u Q I rx ry ⟨_, _, rfl, rfl, bb _ h⟩
  · obtain ⟨ss, e, h2⟩ := h
    subst e
    cases hx.str
    obtain ⟨p, vs, rfl, hq, rr⟩ := hy.tup
    have ev := rps_strs rr
    subst ev
    rw [← hK] at hq
    exact op_in_seq pins s σ H _ _ v u Q I rx ry ⟨p, _, rfl, .inr hq, rfl, flat_strV ss, by rw [if_neg Bool.false_ne_true, inV_strs]; exact bb _ h2⟩
  · obtain ⟨ss, e, h2⟩ := h
    subst e
    cases hx.str
    obtain ⟨p, vs, rfl, hq, rr⟩ := hy.tup
    have ev := rps_strs rr
    subst ev
    rw [← hK] at hq
    exact op_notIn_seq pins s σ H _ _ v u Q I rx ry ⟨p, _, rfl, .inr hq, rfl, flat_strV ss, by rw [if_pos rfl, inV_strs]; exact bb _ h2⟩
  · exact h.elim
def tCmp (op : CmpOp) (Ta Tb : TEp) : TEp := tBin (fun x y Q => opC op x y fun b => Q (Fz (.bl b))) Ta Tb
def tCmpT (op : CmpOp) (Ta Tb : TEp) : TTp := fun ρ R E => Ta ρ (fun ra ρ1 => nA ra <| Tb ρ1 (fun rb ρ2 => wD (vw ρ2 ra) fun x => wD (vw ρ2 rb) fun y => opC op x y fun b => R b ρ2) E) E
theorem p_cmp {op : CmpOp} (hu : X.A.units + 65 < cLine) (ha : PEp c ek fl X a Ta) (hb : PEp c ek fl X b Tb) (hm : behindInMarks op b = false := by first | rfl | exact nomark _) (hK : X.K = c.K := by rfl) : PEp c ek fl X (.Compare a [op] [b] pos) (tCmp op Ta Tb) :=
  ⟨fun pins s σ H Q I h => wpAny_Compare1 (bin_run (opC_ok hK hu op) ha hb I h) hm⟩
theorem t_cmp {op : CmpOp} (hu : X.A.units + 65 < cLine) (ha : PEp c ek fl X a Ta) (hb : PEp c ek fl X b Tb) (hm : behindInMarks op b = false := by first | rfl | exact nomark _) (hK : X.K = c.K := by rfl) : PTp c ek fl X (.Compare a [op] [b] pos) (tCmpT op Ta Tb) := by
  refine ⟨fun pins s σ H Q I h => ?_⟩
  obtain ⟨ρ, τ, R0, E0, S, hT, hQ, hE⟩ := h
  refine wpAny_isTrue_Compare1 (bin ha hb I (R := fun x y H2 => ∃ ρ2 ra rb, Sim c ρ2 ((y, rb) :: (x, ra) :: τ) σ H2 ∧ wD (vw ρ2 ra) fun dx => wD (vw ρ2 rb) fun dy => opC op dx dy (fun b => R0 b ρ2)) ?_ fun v u s2 x y H2 I2 rx ry q => ?_) hm
  · exact ⟨ρ, τ, _, E0, S, hT, fun ra ρ1 x H1 h1 S1 => let ⟨h1, n⟩ := h1.of; ⟨ρ1, _, _, E0, S1, h1, fun rb ρ2 y H2 h2 S2 => ⟨ρ2, ra, rb, S2, h2⟩, hE.1, fun z => n (hE.2 z)⟩, hE⟩
  · obtain ⟨ρ2, ra, rb, S2, q⟩ := q
    obtain ⟨dx, ex, q⟩ := q.of
    obtain ⟨dy, ey, q⟩ := q.of
    refine thn (opC_ok hK hu op pins s2 σ H2 (fun v H' => ∃ k, v = .bl k ∧ Q k H') ρ2 τ x y v u ra rb dx dy (fun ct => ∃ k, ct = Fz (.bl k) ∧ R0 k ρ2) I2 rx ry S2 ex ey (opC_mono (fun b h => ⟨b, rfl, h⟩) q) fun ct w H' h1 S' => ?_) fun c s3 ⟨x, H1, I1, r1, q1⟩ => ?_
    · obtain ⟨k, rfl, h1⟩ := h1
      obtain ⟨O, S1⟩ := S'
      have h3 : Rp c.K H' (c.av O) (.bl k) w := S1.tm.1
      exact ⟨k, h3.top.bl, hQ k _ _ h1 ⟨O, S1.pop⟩⟩
    · obtain ⟨d, rfl, q⟩ := q1
      cases r1
      exact wpAny_truthy_bool ⟨H1, I1, q⟩
end
end Pm

namespace Pm
open PySem PySem.Spec PyProof.Rows L2
section
variable {c : Cc} {O O' : Ow} {H H' : Hp} {ρ ρ' : En} {τ : List (V × R)} {σ : St} {v : V} {ℓ : Lab} {ct : Ct} {X : Cx} {ek : EK} {fl : Bool}
variable {a b e : Expr} {rest : List Expr} {Ta Tb : TEp} {TA' TB' : TTp} {pos : Pos}

/-! ### tests -/
def truD : D → Bool
  | .non => false
  | .bl b => b
  | .int i => i != 0
  | .str x => (x.length : Int) != 0
  | .tup l => !l.isEmpty
  | .lst l => !l.isEmpty
  | .scr l => !l.isEmpty
def truS : D → Prop
  | .str x => x.length ≤ sizeLine
  | _ => True
theorem isEmpty_len {α β : Type} {l : List α} {m : List β} (h : l.length = m.length) : l.isEmpty = m.isEmpty := by
  cases l <;> cases m <;> first | rfl | (simp at h)
theorem truV {K : PySem.W.Frag} {A : Av} {d : D} (h : RpT K H A d v) (hs : truS d) : TruV K v H (truD d) := by
  cases d with
  | non => rw [h.non]; rfl
  | bl b => rw [h.bl]; rfl
  | int i => rw [h.int]; rfl
  | str x => rw [h.str]; exact ⟨hs, rfl⟩
  | tup l =>
    obtain ⟨a, vs, rfl, q, r⟩ := h.tup
    exact .inr (.inl ⟨vs, q, by unfold truD; rw [isEmpty_len r.length]⟩)
  | lst l =>
    obtain ⟨a, vs, rfl, q, r⟩ := h.lst
    exact .inl ⟨vs, SqL.of q, by unfold truD; rw [isEmpty_len r.length]⟩
  | scr l =>
    obtain ⟨a, rfl, q⟩ := h.scr
    exact .inl ⟨_, scr_sq q, by simp [truD]⟩
/-- truth of any expression's value -/
def tTru (Ta : TEp) : TTp := fun ρ R E => Ta ρ (fun r ρ1 => wD (vw ρ1 r) fun d => truS d ∧ R (truD d) ρ1) E
theorem t_tru (ha : PEp c ek fl X a Ta) (he : ∀ whole, isTrue a X.env whole = (do let v ← whole; standAt a.pos; holding [v] (truthy v)) := by intro _; rfl) (hK : X.K = c.K := by rfl) : PTp c ek fl X a (tTru Ta) := by
  refine ⟨fun pins s σ H Q I h => ?_⟩
  obtain ⟨ρ, τ, R0, E0, S, hT, hQ, hE⟩ := h
  refine (pt_truth ha he).run pins s σ H Q I ?_
  refine ⟨ρ, τ, _, E0, S, hT, fun r ρ1 v H1 h1 S1 => ?_, hE⟩
  obtain ⟨d, e1, h2, h3⟩ := h1.of
  obtain ⟨O, S1⟩ := S1
  exact ⟨_, by rw [hK]; exact truV (S1.vw e1) h2, hQ _ _ _ h3 ⟨O, S1.pop⟩⟩
def tAnd (t u : TTp) : TTp := fun ρ R E => t ρ (fun b ρ1 => if b = true then u ρ1 R E else R false ρ1) E
def tOr (t u : TTp) : TTp := fun ρ R E => t ρ (fun b ρ1 => if b = true then R true ρ1 else u ρ1 R E) E
def tNot (t : TTp) : TTp := fun ρ R E => t ρ (fun b ρ1 => R (!b) ρ1) E
theorem t_and1 (ha : PTp c ek fl X a TA') : PWp c ek fl X (.BoolOp .And [a] pos) TA' := pw_and1 ha
theorem t_or1 (ha : PTp c ek fl X a TA') : PWp c ek fl X (.BoolOp .Or [a] pos) TA' := pw_or1 ha
theorem t_and (ha : PTp c ek fl X a TA') (hb : PWp c ek fl X (.BoolOp .And (b :: rest) pos) TB') : PWp c ek fl X (.BoolOp .And (a :: b :: rest) pos) (tAnd TA' TB') := by
  refine ⟨fun wh pins s σ H Q I h => ?_⟩
  obtain ⟨ρ, τ, R0, E0, S, hT, hQ, hE⟩ := h
  refine (pw_and ha hb).run wh pins s σ H Q I ⟨ρ, τ, _, E0, S, hT, fun k ρ1 H1 h1 S1 => ?_, hE⟩
  cases k with
  | true => rw [if_pos rfl] at h1 ⊢; exact ⟨ρ1, τ, R0, E0, S1, h1, hQ, hE⟩
  | false => rw [if_neg Bool.false_ne_true] at h1 ⊢; exact hQ _ _ _ h1 S1
theorem t_or (ha : PTp c ek fl X a TA') (hb : PWp c ek fl X (.BoolOp .Or (b :: rest) pos) TB') : PWp c ek fl X (.BoolOp .Or (a :: b :: rest) pos) (tOr TA' TB') := by
  refine ⟨fun wh pins s σ H Q I h => ?_⟩
  obtain ⟨ρ, τ, R0, E0, S, hT, hQ, hE⟩ := h
  refine (pw_or ha hb).run wh pins s σ H Q I ⟨ρ, τ, _, E0, S, hT, fun k ρ1 H1 h1 S1 => ?_, hE⟩
  cases k with
  | true => rw [if_pos rfl] at h1 ⊢; exact hQ _ _ _ h1 S1
  | false => rw [if_neg Bool.false_ne_true] at h1 ⊢; exact ⟨ρ1, τ, R0, E0, S1, h1, hQ, hE⟩
theorem t_not (ha : PTp c ek fl X a TA') : PTp c ek fl X (.UnaryOp .Not a pos) (tNot TA') := by
  refine ⟨fun pins s σ H Q I h => ?_⟩
  obtain ⟨ρ, τ, R0, E0, S, hT, hQ, hE⟩ := h
  exact (pt_not ha).run pins s σ H Q I ⟨ρ, τ, _, E0, S, hT, fun k ρ1 H1 h1 S1 => hQ _ _ _ h1 S1, hE⟩
theorem t_pw (h : PWp c ek fl X e TA') : PTp c ek fl X e TA' := h.pt
/-- and, or, not as values: of bools -/
def isB (r : R) (k : Bool → Prop) : Prop := match r with
  | .va (.at (.fz (.bl b))) => k b
  | _ => False
theorem isB.of {r : R} {k : Bool → Prop} (h : isB r k) : ∃ b, r = .va (Fz (.bl b)) ∧ k b := by
  unfold isB at h
  split at h
  · exact ⟨_, rfl, h⟩
  · exact h.elim
theorem Sim.bl {k : Bool} (S : Sim c ρ ((v, .va (Fz (.bl k))) :: τ) σ H) : v = .bl k := by
  obtain ⟨O, S⟩ := S
  have h3 : Rp c.K H (c.av O) (.bl k) v := S.tm.1
  exact h3.top.bl
def tAndV (Ta Tb : TEp) : TEp := fun ρ R E => Ta ρ (fun r ρ1 => isB r fun b => if b = true then Tb ρ1 R E else R (.va (Fz (.bl false))) ρ1) E
def tOrV (Ta Tb : TEp) : TEp := fun ρ R E => Ta ρ (fun r ρ1 => isB r fun b => if b = true then R (.va (Fz (.bl true))) ρ1 else Tb ρ1 R E) E
def tNotV (Ta : TEp) : TEp := fun ρ R E => Ta ρ (fun r ρ1 => isB r fun b => R (.va (Fz (.bl (!b)))) ρ1) E
theorem p_one {op : BoolOp} (ha : PEp c ek fl X a Ta) : PEp c ek fl X (.BoolOp op [a] pos) Ta := pe_one ha
theorem p_and (ha : PEp c ek fl X a Ta) (hb : PEp c ek fl X (.BoolOp .And (b :: rest) pos) Tb) : PEp c ek fl X (.BoolOp .And (a :: b :: rest) pos) (tAndV Ta Tb) := by
  refine ⟨fun pins s σ H Q I h => ?_⟩
  obtain ⟨ρ, τ, R0, E0, S, hT, hQ, hE⟩ := h
  refine (pe_and ha hb).run pins s σ H Q I ⟨ρ, τ, _, E0, S, hT, fun r ρ1 v H1 h1 S1 => ?_, hE⟩
  obtain ⟨k, rfl, h2⟩ := h1.of
  refine ⟨k, S1.bl, ?_⟩
  cases k with
  | true => rw [if_pos rfl] at h2 ⊢; exact ⟨ρ1, τ, R0, E0, S1.pop, h2, hQ, hE⟩
  | false => rw [if_neg Bool.false_ne_true] at h2 ⊢; exact hQ _ _ _ _ h2 (S1.pop.pushFz fun A => Rp.ofBl _)
theorem p_or (ha : PEp c ek fl X a Ta) (hb : PEp c ek fl X (.BoolOp .Or (b :: rest) pos) Tb) : PEp c ek fl X (.BoolOp .Or (a :: b :: rest) pos) (tOrV Ta Tb) := by
  refine ⟨fun pins s σ H Q I h => ?_⟩
  obtain ⟨ρ, τ, R0, E0, S, hT, hQ, hE⟩ := h
  refine (pe_or ha hb).run pins s σ H Q I ⟨ρ, τ, _, E0, S, hT, fun r ρ1 v H1 h1 S1 => ?_, hE⟩
  obtain ⟨k, rfl, h2⟩ := h1.of
  refine ⟨k, S1.bl, ?_⟩
  cases k with
  | true => rw [if_pos rfl] at h2 ⊢; exact hQ _ _ _ _ h2 (S1.pop.pushFz fun A => Rp.ofBl _)
  | false => rw [if_neg Bool.false_ne_true] at h2 ⊢; exact ⟨ρ1, τ, R0, E0, S1.pop, h2, hQ, hE⟩
theorem p_not (ha : PEp c ek fl X a Ta) : PEp c ek fl X (.UnaryOp .Not a pos) (tNotV Ta) := by
  refine ⟨fun pins s σ H Q I h => ?_⟩
  obtain ⟨ρ, τ, R0, E0, S, hT, hQ, hE⟩ := h
  refine (pe_not ha).run pins s σ H Q I ⟨ρ, τ, _, E0, S, hT, fun r ρ1 v H1 h1 S1 => ?_, hE⟩
  obtain ⟨k, rfl, h2⟩ := h1.of
  exact ⟨k, S1.bl, hQ _ _ _ _ h2 (S1.pop.pushFz fun A => Rp.ofBl _)⟩
def tIfE (t : TTp) (Ta Tb : TEp) : TEp := fun ρ R E => t ρ (fun b ρ1 => if b = true then Ta ρ1 R E else Tb ρ1 R E) E
theorem p_if {t : Expr} (ht : PTp c ek fl X t TA') (ha : PEp c ek fl X a Ta) (hb : PEp c ek fl X b Tb) : PEp c ek fl X (.IfExp t a b pos) (tIfE TA' Ta Tb) := by
  refine ⟨fun pins s σ H Q I h => ?_⟩
  obtain ⟨ρ, τ, R0, E0, S, hT, hQ, hE⟩ := h
  refine (pe_ifExp ht ha hb).run pins s σ H Q I ⟨ρ, τ, _, E0, S, hT, fun k ρ1 H1 h1 S1 => ?_, hE⟩
  cases k with
  | true => rw [if_pos rfl] at h1 ⊢; exact ⟨ρ1, τ, R0, E0, S1, h1, hQ, hE⟩
  | false => rw [if_neg Bool.false_ne_true] at h1 ⊢; exact ⟨ρ1, τ, R0, E0, S1, h1, hQ, hE⟩
def tNeg (Ta : TEp) : TEp := fun ρ R E => Ta ρ (fun r ρ1 => match vw ρ1 r with | some (.int i) => R (.va (Fz (.int (-i)))) ρ1 | _ => False) E
theorem p_neg (ha : PEp c ek fl X a Ta) : PEp c ek fl X (.UnaryOp .USub a pos) (tNeg Ta) := by
  refine ⟨fun pins s σ H Q I h => ?_⟩
  obtain ⟨ρ, τ, R0, E0, S, hT, hQ, hE⟩ := h
  refine (pe_un un_neg ha).run pins s σ H Q I ⟨ρ, τ, _, E0, S, hT, fun r ρ1 v H1 h1 S1 => ?_, hE⟩
  obtain ⟨O, S1⟩ := S1
  split at h1
  · rename_i i q
    exact ⟨i, (S1.vw q).int, hQ _ _ _ _ h1 (Sim.pushFz ⟨O, S1.pop⟩ fun A => Rp.ofInt _)⟩
  · exact h1.elim

/-! ### argument lists, displays -/
def tANil : TAp := fun ρ R _ => R [] ρ
def tACons (Te : TEp) (TA : TAp) : TAp := fun ρ R E => Te ρ (fun r ρ1 => nA r <| TA ρ1 (fun rs ρ2 => R (r :: rs) ρ2) E) E
variable {Te : TEp} {TA TB : TAp} {es : List Expr}
theorem a_nil : PAp c ek fl X [] tANil := by
  refine ⟨fun p pins s σ H Q I h => ?_⟩
  obtain ⟨ρ, τ, R0, E0, S, hT, hQ, hE⟩ := h
  exact pa_nil.run p pins s σ H Q I (hQ [] ρ [] H hT rfl S)
theorem a_cons (ha : PEp c ek fl X e Te) (hr : PAp c ek fl X es TA) (hs : starEach (e :: es) X.env = (false, eval e X.env) :: starEach es X.env := by rfl) : PAp c ek fl X (e :: es) (tACons Te TA) := by
  refine ⟨fun p pins s σ H Q I h => ?_⟩
  obtain ⟨ρ, τ, R0, E0, S, hT, hQ, hE⟩ := h
  refine (pa_cons ha hr hs).run p pins s σ H Q I ⟨ρ, τ, _, E0, S, hT, fun r ρ1 v H1 h1 S1 => ?_, hE⟩
  obtain ⟨h1, n⟩ := h1.of
  exact ⟨ρ1, (v, r) :: τ, _, E0, S1, h1, fun rs ρ2 vs H2 h2 hl S2 => hQ _ ρ2 (v :: vs) H2 h2 (by simp [hl]) S2, hE.1, fun z => n (hE.2 z)⟩
def tAOne (Te : TEp) : TAp := fun ρ R E => Te ρ (fun r ρ1 => R [r] ρ1) E
theorem a_one (ha : PEp c ek fl X e Te) (hs : starEach [e] X.env = (false, eval e X.env) :: starEach [] X.env := by rfl) : PAp c ek fl X [e] (tAOne Te) := by
  refine ⟨fun p pins s σ H Q I h => ?_⟩
  obtain ⟨ρ, τ, R0, E0, S, hT, hQ, hE⟩ := h
  refine (pa_cons ha pa_nil hs).run p pins s σ H Q I ⟨ρ, τ, _, E0, S, hT, fun r ρ1 v H1 h1 S1 => ?_, hE⟩
  exact hQ [r] ρ1 [v] H1 h1 rfl S1
def fzK (ρ : En) (rs : List R) (k : List D → En → Prop) : Prop := match fzL ρ rs with
  | some (ds, ρ') => k ds ρ'
  | none => False
theorem fzK.of {rs : List R} {k : List D → En → Prop} (h : fzK ρ rs k) : ∃ ds ρ', fzL ρ rs = some (ds, ρ') ∧ k ds ρ' := by
  unfold fzK at h
  split at h
  · rename_i ds ρ' e
    exact ⟨ds, ρ', e, h⟩
  · exact h.elim
def tTup (TA : TAp) : TEp := fun ρ R E => TA ρ (fun rs ρ1 => fzK ρ1 rs fun ds ρ2 => ds.length ≤ sizeLine ∧ R (.va (Fz (.tup ds))) ρ2) E
def tLst (TA : TAp) : TEp := fun ρ R E => TA ρ (fun rs ρ1 => fzK ρ1 rs fun ds ρ2 => ds.length ≤ sizeLine ∧ R (.va (Wl ds)) ρ2) E
theorem p_tup {k : Nat} (h : PAp c ek fl X es TA) : PEp c ek fl X (.Tuple es k pos) (tTup TA) := by
  refine ⟨fun pins s σ H Q I h' => ?_⟩
  obtain ⟨ρ, τ, R0, E0, S, hT, hQ, hE⟩ := h'
  refine (pe_tup h).run pins s σ H Q I ⟨ρ, τ, _, E0, S, hT, fun rs ρ1 vs H1 h1 hl S1 => ?_, hE⟩
  obtain ⟨ds, ρ2, e1, h2, h3⟩ := h1.of
  obtain ⟨O, S1⟩ := S1
  obtain ⟨O2, S2, r2, _⟩ := fzL_ok hl S1 e1
  exact ⟨by rw [r2.length]; exact h2, fun p hp => hQ _ _ _ _ h3 (S2.newTup hp r2)⟩
theorem p_lst (h : PAp c ek fl X es TA) : PEp c ek fl X (.List es pos) (tLst TA) := by
  refine ⟨fun pins s σ H Q I h' => ?_⟩
  obtain ⟨ρ, τ, R0, E0, S, hT, hQ, hE⟩ := h'
  refine (pe_lst h).run pins s σ H Q I ⟨ρ, τ, _, E0, S, hT, fun rs ρ1 vs H1 h1 hl S1 => ?_, hE⟩
  obtain ⟨ds, ρ2, e1, h2, h3⟩ := h1.of
  obtain ⟨O, S1⟩ := S1
  obtain ⟨O2, S2, r2, _⟩ := fzL_ok hl S1 e1
  exact ⟨by rw [r2.length]; exact h2, fun p hp => hQ _ _ _ _ h3 (S2.newLst hp r2)⟩

/-! ### subscripts -/
def ixD (x i : D) (Q : D → Prop) : Prop := match x, i with
  | .tup l, .int i => match atI l i with | some d => Q d | none => False
  | .lst l, .int i => match atI l i with | some d => Q d | none => False
  | .str z, .int i => z.length ≤ sizeLine ∧ match atI z.cps.toList i with | some k => Q (.str ⟨#[k]⟩) | none => False
  | _, _ => False
theorem atI_rps {K : PySem.W.Frag} {A : Av} {l : List D} {vs : List V} {i : Int} {d : D} (r : Rps K H A l vs) (h : atI l i = some d) : ∃ w, atI vs i = some w ∧ Rp K H A d w := by
  unfold atI at h ⊢
  rw [r.length]
  cases e : ixN l.length i with
  | none => rw [e] at h; cases h
  | some j =>
    rw [e] at h
    exact r.get h
theorem ix_all : IxR X (fun x y H Q => rIxL X.K x y H Q ∨ rIxT X.K x y H Q ∨ rIxS x y H Q) := ix_list.or (ix_tup.or ix_str)
def tIx (Ta Tb : TEp) : TEp := fun ρ R E => Ta ρ (fun ra ρ1 => nA ra <| Tb ρ1 (fun rb ρ2 => wD (vw ρ2 ra) fun x => wD (vw ρ2 rb) fun y => ixD x y fun d => R (.va (Fz d)) ρ2) E) E
theorem p_ix (ha : PEp c ek fl X a Ta) (hb : PEp c ek fl X b Tb) (hs : PlainIx b := by intro _ _; rfl) (hK : X.K = c.K := by rfl) : PEp c ek fl X (.Subscript a b pos) (tIx Ta Tb) := by
  refine ⟨fun pins s σ H Q I h => ?_⟩
  obtain ⟨ρ, τ, R0, E0, S, hT, hQ, hE⟩ := h
  refine (pe_ix ix_all ha hb hs).run pins s σ H Q I ⟨ρ, τ, _, E0, S, hT, fun ra ρ1 x H1 h1 S1 => let ⟨h1, n⟩ := h1.of; ⟨ρ1, _, _, E0, S1, h1, fun rb ρ2 y H2 h2 S2 => ?_, hE.1, fun z => n (hE.2 z)⟩, hE⟩
  obtain ⟨dx, ex, h2⟩ := h2.of
  obtain ⟨dy, ey, h2⟩ := h2.of
  obtain ⟨O, S2⟩ := S2
  obtain ⟨hx, hy⟩ := S2.vw2 ex ey
  have S3 := S2.pop.pop
  unfold ixD at h2
  split at h2
  · split at h2
    · rename_i e
      obtain ⟨p, vs, rfl, q, r⟩ := hx.tup
      obtain ⟨w, e2, r2⟩ := atI_rps r e
      exact .inr (.inl ⟨p, vs, _, w, rfl, hy.int, by rw [hK]; exact q, e2, hQ _ _ _ _ h2 ⟨O, S3.push r2⟩⟩)
    · exact h2.elim
  · split at h2
    · rename_i e
      obtain ⟨p, vs, rfl, q, r⟩ := hx.lst
      obtain ⟨w, e2, r2⟩ := atI_rps r e
      exact .inl ⟨p, vs, _, w, rfl, hy.int, SqL.of q, e2, hQ _ _ _ _ h2 ⟨O, S3.push r2⟩⟩
    · exact h2.elim
  · obtain ⟨hz, h2⟩ := h2
    split at h2
    · rename_i e
      exact .inr (.inr ⟨_, _, _, hx.str, hy.int, hz, e, hQ _ _ _ _ h2 (Sim.pushFz ⟨O, S3⟩ fun A => Rp.ofStr _)⟩)
    · exact h2.elim
  · exact h2.elim
end
end Pm

namespace Pm
open PySem PySem.Spec PyProof.Rows L2
section
variable {c : Cc} {O O' : Ow} {H H' : Hp} {ρ ρ' : En} {τ τ' : List (V × R)} {σ : St} {v : V} {ℓ ℓ' : Lab} {ct : Ct} {X : Cx} {ek : EK} {fl : Bool}
variable {a b e : Expr} {rest : List Expr} {Ta Tb Te : TEp} {TA' TB' TT' : TTp} {pos : Pos}

/-! ### new labels -/
def Ow.re (O : Ow) (ℓ ℓ' : Lab) : Ow := fun a => match O a with
  | some (k, m) => if k = ℓ then some (ℓ', m) else some (k, m)
  | none => none
theorem Ow.re_some {p : Addr} {m : Option Str} (h : O p = some (ℓ, m)) : O.re ℓ ℓ' p = some (ℓ', m) := by unfold Ow.re; rw [h]; simp
theorem Ow.re_ne {p : Addr} {k : Lab} {m : Option Str} (h : O p = some (k, m)) (n : k ≠ ℓ) : O.re ℓ ℓ' p = some (k, m) := by unfold Ow.re; rw [h]; simp [n]
theorem Ow.re_none {p : Addr} : O.re ℓ ℓ' p = none ↔ O p = none := by
  unfold Ow.re
  cases h : O p with
  | none => simp
  | some x =>
    obtain ⟨k, m⟩ := x
    simp only
    split <;> simp
theorem av_re {p : Addr} : c.av (O.re ℓ ℓ') p ↔ c.av O p := by
  unfold Cc.av
  rw [Ne, Ow.re_none]
theorem Ext.re : Ext c (fun l _ => l.1 = ℓ) O (O.re ℓ ℓ') H H where
  hF := fun _ _ _ h => h
  hT := fun _ _ h => h
  hL := fun a xs h n => ⟨h, fun z => n (av_re.mp z)⟩
  hO := fun a l o h n h2 => ⟨by obtain ⟨k, m⟩ := l; exact Ow.re_ne h n, h2⟩
theorem FOk.re {m : Option Str} {f : FC} (h : FOk c H O v (ℓ, m) f) : FOk c H (O.re ℓ ℓ') v (ℓ', m) f := by
  have ex : Ext c (fun l _ => l.1 = ℓ) O (O.re ℓ ℓ') H H := Ext.re
  cases f with
  | fz d => exact ex.rp h
  | ow l => obtain ⟨a, vs, rfl, o, ha, r⟩ := h; exact ⟨a, vs, rfl, Ow.re_some o, ha, ex.rps r⟩
  | dk kvs => obtain ⟨a, ws, rfl, o, ha, k, r⟩ := h; exact ⟨a, ws, rfl, Ow.re_some o, ha, k, ex.rps r⟩
theorem COk.re (h : COk c H O v ℓ ct) : COk c H (O.re ℓ ℓ') v ℓ' ct := by
  cases ct with
  | no => trivial
  | «at» f => exact FOk.re h
  | ob nm fs =>
    obtain ⟨x, dx, C, vfs, rfl, o, k, hx, r⟩ := h
    exact ⟨x, dx, C, vfs, rfl, Ow.re_some o, k, hx, r.1, fun f fc q => let ⟨w, e1, e2⟩ := r.2 f fc q; ⟨w, e1, e2.re⟩⟩
theorem Sim0.ow_re (S : Sim0 c H O ρ τ σ) : ∀ a l, O.re ℓ ℓ' a = some l → ¬ c.Z a ∧ (c.H0 a = none ∨ c.I a) ∧ Mut (H a) := fun a l q => by
  cases h : O a with
  | none => rw [Ow.re_none.mpr h] at q; cases q
  | some x => exact S.ow a x h

theorem NoAl.tok : ∀ {τ : List (V × R)} {σ σ' : St}, NoAl τ → TOk c H O σ τ → TOk c H O σ' τ
  | [], _, _, _, _ => trivial
  | (v, .al i) :: τ, _, _, n, h => by obtain ⟨ct, e⟩ := n v _ List.mem_cons_self; cases e
  | (v, .alf i f) :: τ, _, _, n, h => by obtain ⟨ct, e⟩ := n v _ List.mem_cons_self; cases e
  | (v, .va ct) :: τ, _, _, n, h => ⟨h.1, NoAl.tok (fun w r m => n w r (List.mem_cons_of_mem _ m)) h.2⟩
theorem TOk.agree {σ' : St} {own : List Nat} (hown : ∀ i ∈ own, c.nb ≤ i) (g : ∀ i, i ∉ own → σ'[i]? = σ[i]?) : ∀ {τ : List (V × R)}, TOk c H O σ τ → TOk c H O σ' τ
  | [], _ => trivial
  | (v, .al i) :: τ, h => by
    refine ⟨⟨h.1.1, ?_⟩, TOk.agree hown g h.2⟩
    rw [g i (fun z => absurd (hown i z) (Nat.not_le.mpr h.1.1))]
    exact h.1.2
  | (v, .alf i f) :: τ, h => by
    obtain ⟨⟨x, C, dx, vfs, hb, e1, o, e2, e3⟩, h2⟩ := h
    refine ⟨⟨x, C, dx, vfs, hb, ?_, o, e2, e3⟩, TOk.agree hown g h2⟩
    rw [g i (fun z => absurd (hown i z) (Nat.not_le.mpr hb))]
    exact e1
  | (v, .va ct) :: τ, h => ⟨h.1, TOk.agree hown g h.2⟩
theorem NoAl.alf (n : NoAl τ) : NoAlf τ := fun v i f m => by obtain ⟨ct, e⟩ := n v _ m; cases e
/-- the top temporary goes to slot j -/
theorem Sim0.put {j : Nat} (S : Sim0 c H O ρ ((v, .va ct) :: τ) σ) (n : NoAl τ) (hj : j ∉ c.lock) : Sim c (ρ.set j ct) τ (σ.set j (some v)) H := by
  have S' := S.pop
  have ex : Ext c (fun l _ => l.1 = .t τ.length) O (O.re (.t τ.length) (.s j)) H H := Ext.re
  have hc : COk c H (O.re (.t τ.length) (.s j)) v (.s j) ct := COk.re S.tm.1
  refine ⟨O.re (.t τ.length) (.s j), by rw [List.length_set, List.length_set]; exact S.len, S.fr, S'.ow_re, S.zt, fun p hp => ⟨(S.io p hp).1, ?_⟩, fun i ct' q hn => ?_, n.tok (S'.tm.mono ex (fun k m a hk z => by cases z; omega) (fun w i f m _ _ _ _ _ z => by cases z))⟩
  · rw [List.getElem?_set_ne (fun z => hj (by rw [z]; exact (S.io p hp).1))]
    exact (S.io p hp).2
  · by_cases hi : i = j
    · subst hi
      by_cases hl : i < ρ.length
      · rw [List.getElem?_set_self hl] at q; cases q
        exact ⟨v, by rw [List.getElem?_set_self (by rw [S.len]; exact hl)], hc⟩
      · rw [List.getElem?_eq_none (by simpa using hl)] at q; cases q
    · rw [List.getElem?_set_ne (Ne.symm hi)] at q
      obtain ⟨w, e1, e2⟩ := S'.sl i ct' q hn
      exact ⟨w, by rw [List.getElem?_set_ne (Ne.symm hi)]; exact e1, e2.mono ex (fun m a z => by cases z)⟩
/-- what goes to a slot -/
def stC (ρ : En) (r : R) (k : Ct → En → Prop) : Prop := match r with
  | .va ct => k ct ρ
  | r => match fzC ρ r with
    | some (d, ρ') => k (Fz d) ρ'
    | none => False
theorem stC_ok {r : R} {k : Ct → En → Prop} (S : Sim c ρ ((v, r) :: τ) σ H) (h : stC ρ r k) : ∃ ct ρ', k ct ρ' ∧ Sim c ρ' ((v, .va ct) :: τ) σ H := by
  obtain ⟨O, S⟩ := S
  have go : (match fzC ρ r with | some (d, ρ') => k (Fz d) ρ' | none => False) → ∃ ct ρ', k ct ρ' ∧ Sim c ρ' ((v, .va ct) :: τ) σ H := fun h => by
    split at h
    · rename_i d ρ' e
      obtain ⟨O', S', r', _⟩ := fzC_ok S e
      exact ⟨_, _, h, O', S'.push r'⟩
    · exact h.elim
  cases r with
  | va ct => exact ⟨ct, ρ, h, O, S⟩
  | al i => exact go h
  | alf i f => exact go h

/-! ### statements -/
variable {st : Stmt} {sts : List Stmt} {T U : TSp}
def sNil : TSp := fun ρ E => E.nx ρ
def sSeq (T U : TSp) : TSp := fun ρ E => T ρ { E with nx := fun ρ' => U ρ' E }
theorem ss_nil : PSsp c ek X [] sNil := by
  refine ⟨fun pins s σ H D I h => ?_⟩
  obtain ⟨ρ, τ, E, S, n, hT, h1, h2, h3, h4, h5⟩ := h
  exact pss_nil.run pins s σ H D I (h1 _ _ _ hT S)
theorem ss_cons (h1 : PSp c ek X st T) (h2 : PSsp c ek X sts U) : PSsp c ek X (st :: sts) (sSeq T U) := by
  refine ⟨fun pins s σ H D I h => ?_⟩
  obtain ⟨ρ, τ, E, S, n, hT, q1, q2, q3, q4, q5⟩ := h
  exact (pss_cons h1 h2).run pins s σ H D I ⟨ρ, τ, _, S, n, hT, fun ρ' σ' H' e S' => ⟨ρ', τ, E, S', n, e, q1, q2, q3, q4, q5⟩, q2, q3, q4, q5⟩
theorem ss_one (h1 : PSp c ek X st T) : PSsp c ek X [st] T := ⟨fun pins s σ H D I h => (pss_one h1).run pins s σ H D I h⟩
def sPass : TSp := fun ρ E => E.nx ρ
def sBrk : TSp := fun ρ E => E.bk ρ
def sCnt : TSp := fun ρ E => E.ct ρ
theorem s_pass : PSp c ek X (.Pass pos) sPass := by
  refine ⟨fun pins s σ H D I h => ?_⟩
  obtain ⟨ρ, τ, E, S, n, hT, q1, q2, q3, q4, q5⟩ := h
  exact ps_pass.run pins s σ H D I (q1 _ _ _ hT S)
theorem s_doc {x : Str} {j : Nat} {pos' : Pos} : PSp c ek X (.Expr (.Constant (.str x) j pos) pos') sPass := by
  refine ⟨fun pins s σ H D I h => ?_⟩
  obtain ⟨ρ, τ, E, S, n, hT, q1, q2, q3, q4, q5⟩ := h
  exact ps_doc.run pins s σ H D I (q1 _ _ _ hT S)
theorem s_brk : PSp c ek X (.Break pos) sBrk := by
  refine ⟨fun pins s σ H D I h => ?_⟩
  obtain ⟨ρ, τ, E, S, n, hT, q1, q2, q3, q4, q5⟩ := h
  exact ps_break.run pins s σ H D I (q2 _ _ _ hT S)
theorem s_cnt : PSp c ek X (.Continue pos) sCnt := by
  refine ⟨fun pins s σ H D I h => ?_⟩
  obtain ⟨ρ, τ, E, S, n, hT, q1, q2, q3, q4, q5⟩ := h
  exact ps_continue.run pins s σ H D I (q3 _ _ _ hT S)
def sNever : TSp := fun _ _ => False
theorem s_never : PSp c ek X st sNever := by
  refine ⟨fun pins s σ H D I h => ?_⟩
  obtain ⟨ρ, τ, E, S, n, hT, _⟩ := h
  exact hT.elim
def sRet (Te : TEp) : TSp := fun ρ E => Te ρ E.rt E.ex
theorem s_ret (he : PEp c ek true X e Te) : PSp c ek X (.Return (some e) pos) (sRet Te) := by
  refine ⟨fun pins s σ H D I h => ?_⟩
  obtain ⟨ρ, τ, E, S, n, hT, q1, q2, q3, q4, q5⟩ := h
  exact (ps_ret he).run pins s σ H D I ⟨ρ, τ, _, _, S, hT, fun r ρ' v H' h1 S1 => q4 _ _ _ _ _ h1 S1, q5 σ, fun _ => n.alf⟩
def sRetN : TSp := fun ρ E => E.rt (.va (Fz .non)) ρ
theorem s_retN : PSp c ek X (.Return none pos) sRetN := by
  refine ⟨fun pins s σ H D I h => ?_⟩
  obtain ⟨ρ, τ, E, S, n, hT, q1, q2, q3, q4, q5⟩ := h
  exact ps_retN.run pins s σ H D I (q4 _ _ _ _ _ hT (S.pushFz fun A => Rp.ofNon))
def sExp (Te : TEp) : TSp := fun ρ E => Te ρ (fun _ ρ' => E.nx ρ') E.ex
theorem s_exp (he : PEp c ek true X e Te) (hs : swapsWith e none pos.line X.env = pure false := by rfl) : PSp c ek X (.Expr e pos) (sExp Te) := by
  refine ⟨fun pins s σ H D I h => ?_⟩
  obtain ⟨ρ, τ, E, S, n, hT, q1, q2, q3, q4, q5⟩ := h
  exact (ps_expr he hs).run pins s σ H D I ⟨ρ, τ, _, _, S, hT, fun r ρ' v H' h1 S1 => q1 _ _ _ h1 S1.pop, q5 σ, fun _ => n.alf⟩
def sIf (t : TTp) (T U : TSp) : TSp := fun ρ E => t ρ (fun b ρ' => if b = true then T ρ' E else U ρ' E) E.ex
theorem s_if {t : Expr} {A B : List Stmt} (ht : PTp c ek true X t TT') (ha : PSsp c ek X A T) (hb : PSsp c ek X B U) : PSp c ek X (.If t A B pos) (sIf TT' T U) := by
  refine ⟨fun pins s σ H D I h => ?_⟩
  obtain ⟨ρ, τ, E, S, n, hT, q1, q2, q3, q4, q5⟩ := h
  refine (ps_if ht ha hb).run pins s σ H D I ⟨ρ, τ, _, _, S, hT, fun k ρ' H' h1 S1 => ?_, q5 σ, fun _ => n.alf⟩
  cases k with
  | true => rw [if_pos rfl] at h1 ⊢; exact ⟨ρ', τ, E, S1, n, h1, q1, q2, q3, q4, q5⟩
  | false => rw [if_neg Bool.false_ne_true] at h1 ⊢; exact ⟨ρ', τ, E, S1, n, h1, q1, q2, q3, q4, q5⟩
/-- x = e -/
def sSet (j : Nat) (Te : TEp) : TSp := fun ρ E => Te ρ (fun r ρ' => stC ρ' r fun ct ρ'' => E.nx (ρ''.set j ct)) E.ex
theorem s_set (j : Nat) {x : Str} {pos' : Pos} (hN : X.N.Nodup) (he : PEp c ek true X e Te) (hj : j ∉ c.lock) (hi : X.N[j]? = some x := by rfl) (hx : Loc X.env.scope x := by first | exact Or.inl rfl | exact Or.inr rfl)
    (hs : swapsWith e (some (.Name x pos')) pos.line X.env = pure false := by rfl) (hf : X.fn x = true ∨ X.env.scope.names.lookup x = some .local := by first | exact .inl rfl | exact .inr rfl) : PSp c ek X (.Assign [.Name x pos'] e pos) (sSet j Te) := by
  refine ⟨fun pins s σ H D I h => ?_⟩
  obtain ⟨ρ, τ, E, S, n, hT, q1, q2, q3, q4, q5⟩ := h
  refine (ps_set hN hi hx he hs hf).run pins s σ H D I ⟨ρ, τ, _, _, S, hT, fun r ρ' v H' h1 S1 => ?_, q5 σ, fun _ => n.alf⟩
  obtain ⟨ct, ρ2, h2, O, S2⟩ := stC_ok S1 h1
  exact q1 _ _ _ h2 (S2.put n hj)
/-- x op= e, of ints -/
def sAug (f : Int → Int → Int) (j : Nat) (Te : TEp) : TSp := fun ρ E => match ρ[j]? with
  | some (.at (.fz (.int i))) => Te ρ (fun r ρ' => match vw ρ' r with | some (.int k) => E.nx (ρ'.set j (Fz (.int (f i k)))) | _ => False) E.ex
  | _ => False
theorem Sim0.setFz {j : Nat} {d : D} (S : Sim0 c H O ρ τ σ) (n : NoAl τ ∨ c.nb ≤ j) (hj : j ∉ c.lock) (r : Rp c.K H (c.av O) d v) : Sim0 c H O (ρ.set j (Fz d)) τ (σ.set j (some v)) := by
  refine ⟨by rw [List.length_set, List.length_set]; exact S.len, S.fr, S.ow, S.zt, fun p hp => ⟨(S.io p hp).1, ?_⟩, fun i ct' q hn => ?_, n.elim (fun n => n.tok S.tm) fun n => S.tm.agree (own := [j]) (fun i hi => by rw [List.mem_singleton] at hi; rw [hi]; exact n) (fun i hi => List.getElem?_set_ne (fun z => hi (by rw [z]; simp)))⟩
  · rw [List.getElem?_set_ne (fun z => hj (by rw [z]; exact (S.io p hp).1))]
    exact (S.io p hp).2
  · by_cases hi : i = j
    · subst hi
      by_cases hl : i < ρ.length
      · rw [List.getElem?_set_self hl] at q; cases q
        exact ⟨v, by rw [List.getElem?_set_self (by rw [S.len]; exact hl)], r⟩
      · rw [List.getElem?_eq_none (by simpa using hl)] at q; cases q
    · rw [List.getElem?_set_ne (Ne.symm hi)] at q
      obtain ⟨w, e1, e2⟩ := S.sl i ct' q hn
      exact ⟨w, by rw [List.getElem?_set_ne (Ne.symm hi)]; exact e1, e2⟩
theorem s_augF {f : Int → Int → Int} {op : Operator} (j : Nat) {x : Str} {pos' : Pos} (ho : PIp X op (ipI f)) (hN : X.N.Nodup) (he : PEp c ek true X e Te) (hj : j ∉ c.lock) (hi : X.N[j]? = some x := by rfl) (hx : Loc X.env.scope x := by first | exact Or.inl rfl | exact Or.inr rfl)
    (hf : X.fn x = true ∨ X.env.scope.names.lookup x = some .local := by first | exact .inl rfl | exact .inr rfl) : PSp c ek X (.AugAssign (.Name x pos') op e pos) (sAug f j Te) := by
  refine ⟨fun pins s σ H D I h => ?_⟩
  obtain ⟨ρ, τ, E, S, n, hT, q1, q2, q3, q4, q5⟩ := h
  unfold sAug at hT
  split at hT
  · rename_i i q
    obtain ⟨v, e1, e2⟩ := (show ∃ O, Sim0 c H O ρ τ σ from S).elim fun O S => S.sl j _ q (by intro z; cases z) |>.elim fun v h => (⟨v, h.1, (show Rp c.K H (c.av O) (.int i) v from h.2).int⟩ : ∃ v, σ[j]? = some (some v) ∧ v = .int i)
    subst e2
    refine (ps_aug hN hi hx he ho hf).run pins s σ H D I ⟨_, e1, ρ, τ, _, _, S, hT, fun r ρ' w H' h1 S1 => ?_, q5 σ, fun _ => n.alf⟩
    obtain ⟨O, S1⟩ := S1
    split at h1
    · rename_i k qk
      exact ⟨i, k, rfl, (S1.vw qk).int, q1 _ _ _ h1 ⟨O, S1.pop.setFz (.inl n) hj (Rp.ofInt _)⟩⟩
    · exact h1.elim
  · exact hT.elim
variable {TA : TAp}
/-- a, b = e1, e2 -/
def sPar (i j : Nat) (TA : TAp) : TSp := fun ρ E => TA ρ (fun rs ρ' => fzK ρ' rs fun ds ρ'' => match ds with
  | [d1, d2] => E.nx ((ρ''.set i (Fz d1)).set j (Fz d2))
  | _ => False) E.ex
theorem s_par {i j : Nat} {x y : Str} {px py pt : Pos} {kt k2 : Nat} {pt2 : Pos} (hc : X.calm = true) (hN : X.N.Nodup) (hij : i ≠ j) (ha : PAp c ek true X [a, b] TA) (li : i ∉ c.lock) (lj : j ∉ c.lock) (hi : X.N[i]? = some x := by rfl) (hj : X.N[j]? = some y := by rfl)
    (hx : X.env.scope.names.lookup x = some .local := by rfl) (hy : X.env.scope.names.lookup y = some .local := by rfl)
    (hw : swappedStores [.Tuple [.Name x px, .Name y py] kt pt] (.Tuple [a, b] k2 pt2) X.env = pure (some [x, y]) := by rfl)
    (hs : swapsWithSole [.Tuple [.Name x px, .Name y py] kt pt] (.Tuple [a, b] k2 pt2) pos.line X.env = pure false := by rfl) :
    PSp c ek X (.Assign [.Tuple [.Name x px, .Name y py] kt pt] (.Tuple [a, b] k2 pt2) pos) (sPar i j TA) := by
  refine ⟨fun pins s σ H D I h => ?_⟩
  obtain ⟨ρ, τ, E, S, n, hT, q1, q2, q3, q4, q5⟩ := h
  refine (ps_par hc hN hi hj hij hx hy ha hw hs).run pins s σ H D I ⟨ρ, τ, _, _, S, hT, fun rs ρ' vs H' h1 hl S1 => ?_, q5 σ, fun _ => n.alf⟩
  obtain ⟨ds, ρ2, e1, h2⟩ := h1.of
  obtain ⟨O, S1⟩ := S1
  obtain ⟨O2, S2, r2, _⟩ := fzL_ok hl S1 e1
  split at h2
  · rename_i d1 d2
    unfold Rps at r2
    obtain ⟨v, w, rfl, r1, r2⟩ := r2
    unfold Rps at r2
    obtain ⟨w, w', rfl, r2, r3⟩ := r2
    unfold Rps at r3
    subst r3
    refine ⟨v, w, rfl, q1 _ _ _ h2 ?_⟩
    have n2 : NoAl ((w, R.va (Fz d2)) :: τ) := fun u r m => by
      rcases List.mem_cons.mp m with e | m
      · cases e; exact ⟨_, rfl⟩
      · exact n u r m
    have S3 : Sim0 c H' O2 ρ2 ((v, .va (Fz d1)) :: (w, .va (Fz d2)) :: τ) σ := (S2.push (ct := Fz d2) r2).push (ct := Fz d1) r1
    obtain ⟨O4, S4⟩ := S3.put n2 li
    exact S4.put n lj
  · exact h2.elim
/-- targets -/
inductive Tg where
  | nm (i : Nat) | tp (l : List Tg)
mutual
def tgK : Tg → D → En → Option En
  | .nm i, d, ρ => some (ρ.set i (Fz d))
  | .tp l, .tup ds, ρ => tgKs l ds ρ
  | .tp _, _, _ => none
def tgKs : List Tg → List D → En → Option En
  | [], [], ρ => some ρ
  | t :: ts, d :: ds, ρ => (tgK t d ρ).bind fun ρ' => tgKs ts ds ρ'
  | _, _, _ => none
end
mutual
def Tg.sl : Tg → List Nat
  | .nm i => [i]
  | .tp l => Tg.sls l
def Tg.sls : List Tg → List Nat
  | [] => []
  | t :: ts => t.sl ++ Tg.sls ts
end
/-- the two agree but at l -/
def Agr (l : List Nat) (σ σ' : St) : Prop := σ'.length = σ.length ∧ ∀ i, i ∉ l → σ'[i]? = σ[i]?
def rdG (c : Cc) (t : Tg) : TG := fun v σ H Q => ∃ ρ τ d ρ' O, Sim0 c H O ρ τ σ ∧ (NoAl τ ∨ ∀ i ∈ t.sl, c.nb ≤ i) ∧ Rp c.K H (c.av O) d v ∧ tgK t d ρ = some ρ' ∧ ∀ σ', Agr t.sl σ σ' → Sim0 c H O ρ' τ σ' → Q σ' H
def rdGs (c : Cc) (t : List Tg) : TGs := fun vs σ H Q => ∃ ρ τ ds ρ' O, Sim0 c H O ρ τ σ ∧ (NoAl τ ∨ ∀ i ∈ Tg.sls t, c.nb ≤ i) ∧ Rps c.K H (c.av O) ds vs ∧ tgKs t ds ρ = some ρ' ∧ ∀ σ', Agr (Tg.sls t) σ σ' → Sim0 c H O ρ' τ σ' → Q σ' H
abbrev PGp (c : Cc) (X : Cx) (e : Expr) (t : Tg) : Prop := PG X e (rdG c t)
abbrev PGsp (c : Cc) (X : Cx) (e : List Expr) (t : List Tg) : Prop := PGs X e (rdGs c t)
variable {t : Tg} {ts : List Tg} {es : List Expr}
theorem g_nm (j : Nat) {x : Str} (hN : X.N.Nodup) (hj : j ∉ c.lock) (hi : X.N[j]? = some x := by rfl) (hx : Loc X.env.scope x := by first | exact Or.inl rfl | exact Or.inr rfl)
    (hf : X.fn x = true ∨ X.env.scope.names.lookup x = some .local := by first | exact .inl rfl | exact .inr rfl) : PGp c X (.Name x pos) (.nm j) := by
  refine ⟨fun pins s σ H v u Q I r h => ?_⟩
  obtain ⟨ρ, τ, d, ρ', O, S, n, rp, e, q⟩ := h
  unfold tgK at e
  cases e
  exact (pg_name hN hi hx hf).run pins s σ H v u Q I r (q _ ⟨by simp, fun i hi => List.getElem?_set_ne (fun z => hi (by unfold Tg.sl; rw [z]; simp))⟩ (S.setFz (n.elim .inl fun n => .inr (n j (by unfold Tg.sl; simp))) hj rp))
theorem g_nil : PGsp c X [] [] := by
  refine ⟨fun pins s σ H v u Q I r h => ?_⟩
  obtain ⟨ρ, τ, d, ρ', O, S, n, rp, e, q⟩ := h
  cases d with
  | nil =>
    unfold tgKs at e
    cases e
    unfold Rps at rp
    exact pgs_nil.run pins s σ H v u Q I r ⟨rp, q _ ⟨rfl, fun _ _ => rfl⟩ S⟩
  | cons _ _ => unfold tgKs at e; cases e
theorem g_cons (h1 : PGp c X e t) (h2 : PGsp c X es ts) (hs : (assignEach (e :: es) X.env).map (·.2) = assign e X.env :: (assignEach es X.env).map (·.2) := by rfl) : PGsp c X (e :: es) (t :: ts) := by
  refine ⟨fun pins s σ H v u Q I r h => ?_⟩
  obtain ⟨ρ, τ, d, ρ', O, S, n, rp, e, q⟩ := h
  cases d with
  | nil => unfold tgKs at e; cases e
  | cons d ds =>
    unfold tgKs at e
    cases e1 : tgK t d ρ with
    | none => rw [e1] at e; cases e
    | some ρ1 =>
      rw [e1] at e
      unfold Rps at rp
      obtain ⟨w, ws, rfl, r1, r2⟩ := rp
      exact (pgs_cons h1 h2 hs).run pins s σ H _ u Q I r ⟨w, ws, rfl, ρ, τ, d, ρ1, O, S, n.elim .inl (fun n => .inr fun i hi => n i (by unfold Tg.sls; exact List.mem_append_left _ hi)), r1, e1, fun σ' a' S' => ⟨ρ1, τ, ds, ρ', O, S', n.elim .inl (fun n => .inr fun i hi => n i (by unfold Tg.sls; exact List.mem_append_right _ hi)), r2, e, fun σ2 a2 => q σ2 ⟨a2.1.trans a'.1, fun i hi => by
        unfold Tg.sls at hi
        rw [List.mem_append, not_or] at hi
        exact (a2.2 i hi.2).trans (a'.2 i hi.1)⟩⟩⟩
theorem tgKs_len : ∀ {ts : List Tg} {ds : List D} {ρ ρ' : En}, tgKs ts ds ρ = some ρ' → ds.length = ts.length
  | [], [], _, _, _ => rfl
  | t :: ts, d :: ds, ρ, ρ', h => by
    unfold tgKs at h
    cases e1 : tgK t d ρ with
    | none => rw [e1] at h; cases h
    | some ρ1 =>
      rw [e1] at h
      simp [tgKs_len (show tgKs ts ds ρ1 = some ρ' from h)]
  | [], _ :: _, _, _, h => by unfold tgKs at h; cases h
  | _ :: _, [], _, _, h => by unfold tgKs at h; cases h
theorem g_tup {k : Nat} (hc : X.calm = true) (h : PGsp c X es ts) (hn : (assignEach es X.env).length = ts.length := by rfl) (hst : (assignEach es X.env).findIdx? (·.1) = none := by rfl) (hK : X.K = c.K := by rfl) : PGp c X (.Tuple es k pos) (.tp ts) := by
  refine ⟨fun pins s σ H v u Q I r hw => ?_⟩
  obtain ⟨ρ, τ, d, ρ', O, S, n, rp, e, q⟩ := hw
  cases d with
  | tup ds =>
    unfold tgK at e
    obtain ⟨a, vs, rfl, hq, rr⟩ := rp.top.tup
    refine (pg_tup hc h hn hst).run pins s σ H _ u Q I r ⟨a, vs, rfl, by rw [hK]; exact hq, by rw [rr.length]; exact tgKs_len e, ρ, τ, ds, ρ', O, S, n.elim .inl (fun n => .inr fun i hi => n i (by unfold Tg.sl; exact hi)), rr, e, fun σ2 a2 => q σ2 (by unfold Tg.sl; exact a2)⟩
  | _ => unfold tgK at e; cases e
/-- targets = e -/
def sAsg (t : Tg) (Te : TEp) : TSp := fun ρ E => Te ρ (fun r ρ' => match fzC ρ' r with
  | some (d, ρ1) => match tgK t d ρ1 with
    | some ρ2 => E.nx ρ2
    | none => False
  | none => False) E.ex
theorem s_asg {tg : Expr} (he : PEp c ek true X e Te) (hg : PGp c X tg t) (hs : swapsWithSole [tg] e pos.line X.env = pure false := by rfl) (hw : swappedStores [tg] e X.env = pure none := by rfl)
    (h1 : (assignEach [tg] X.env).map (·.2) = [assign tg X.env] := by rfl) : PSp c ek X (.Assign [tg] e pos) (sAsg t Te) := by
  refine ⟨fun pins s σ H D I h => ?_⟩
  obtain ⟨ρ, τ, E, S, n, hT, q1, q2, q3, q4, q5⟩ := h
  refine (ps_asg he hg hs hw h1).run pins s σ H D I ⟨ρ, τ, _, _, S, hT, fun r ρ' w H' h1 S1 => ?_, q5 σ, fun _ => n.alf⟩
  obtain ⟨O, S1⟩ := S1
  split at h1
  · rename_i d ρ1 e1
    obtain ⟨O2, S2, rp, _⟩ := fzC_ok S1 e1
    split at h1
    · rename_i ρ2 e2
      exact ⟨ρ1, τ, d, ρ2, O2, S2, .inl n, rp, e2, fun σ' _ S3 => q1 _ _ _ h1 ⟨_, S3⟩⟩
    · exact h1.elim
  · exact h1.elim

/-! ### loops -/
/-- an iterator gives the items ds, where the temporaries τi stand -/
def ItOk (c : Cc) (J : It) (ds : List D) (τi : List (V × R)) : Prop := ∀ (σ : St) (H : Hp) (ρ : En) (τ0 τ : List (V × R)) (i : Nat), Sim c ρ (τ0 ++ (τi ++ τ)) σ H →
  (∀ d, ds[i]? = some d → J.go i H ∧ ∀ x H', J.yld i H x H' → ∃ O, Sim0 c H' O ρ (τ0 ++ (τi ++ τ)) σ ∧ Rp c.K H' (c.av O) d x) ∧ (ds.length ≤ i → J.stop i H)
abbrev TIp' := En → (List D → En → Prop) → (Exn → En → Prop) → Prop
def rdI (c : Cc) (ek : EK) (b : Bool) (T : TIp') : TI := fun σ H R => ∃ ρ τ R0 E0, Sim c ρ τ σ H ∧ T ρ R0 E0 ∧ (∀ ds ρ' J H' τi, R0 ds ρ' → ItOk c J ds τi → NoAl τi → Sim c ρ' (τi ++ τ) σ H' → R J H') ∧ ek E0 σ ∧ (b = true → NoAlf τ)
abbrev PIp' (c : Cc) (ek : EK) (b : Bool) (X : Cx) (tg iter : Expr) (T : TIp') : Prop := PI X tg iter (rdI c ek b T)
def forK (g : Tg) (T : TSp) : List D → En → Ep → Prop
  | [], ρ, E => E.nx ρ
  | d :: ds, ρ, E => match tgK g d ρ with
    | some ρ1 => T ρ1 { E with nx := fun ρ' => forK g T ds ρ' E, ct := fun ρ' => forK g T ds ρ' E, bk := E.nx }
    | none => False
def sFor (TI : TIp') (g : Tg) (T : TSp) : TSp := fun ρ E => TI ρ (fun ds ρ1 => forK g T ds ρ1 E) E.ex
theorem NoAl.app {τ1 τ2 : List (V × R)} (h1 : NoAl τ1) (h2 : NoAl τ2) : NoAl (τ1 ++ τ2) := fun v r m => by
  rcases List.mem_append.mp m with m | m
  · exact h1 v r m
  · exact h2 v r m
theorem TOk.app : ∀ {τi τ : List (V × R)}, TOk c H O σ (τi ++ τ) → TOk c H O σ τ
  | [], _, h => h
  | (v, r) :: τi, τ, h => TOk.app (TOk.ndrop (τ := τi ++ τ) h)
theorem Sim.pops {τi : List (V × R)} (S : Sim c ρ (τi ++ τ) σ H) : Sim c ρ τ σ H := let ⟨O, S⟩ := S; ⟨O, S.len, S.fr, S.ow, S.zt, S.io, S.sl, S.tm.app⟩
/-- the top one stays, those under it go -/
theorem Sim.mid {r : R} {τi : List (V × R)} (S : Sim c ρ ((v, r) :: (τi ++ τ)) σ H) : Sim c ρ ((v, r) :: τ) σ H := by
  obtain ⟨O, S⟩ := S
  have S' : Sim0 c H O ρ τ σ := ⟨S.len, S.fr, S.ow, S.zt, S.io, S.sl, S.pop.tm.app⟩
  cases r with
  | al i => exact ⟨O, S'.len, S'.fr, S'.ow, S'.zt, S'.io, S'.sl, S.tm.1, S'.tm⟩
  | alf i f => exact ⟨O, S'.len, S'.fr, S'.ow, S'.zt, S'.io, S'.sl, S.tm.1, S'.tm⟩
  | va ct =>
    by_cases hz : τi = []
    · subst hz; exact ⟨O, S⟩
    have hl : 0 < τi.length := by cases τi with | nil => exact absurd rfl hz | cons _ _ => simp
    have ex : Ext c (fun l _ => l.1 = .t (τi ++ τ).length) O (O.re (.t (τi ++ τ).length) (.t τ.length)) H H := Ext.re
    have hc : COk c H (O.re (.t (τi ++ τ).length) (.t τ.length)) v (.t τ.length) ct := COk.re S.tm.1
    refine ⟨_, S'.len, S'.fr, S'.ow_re, S'.zt, S'.io, fun i ct' q hn => ?_, hc, S'.tm.mono ex (fun k m a hk z => ?_) (fun w i f m _ _ _ _ _ z => by cases z)⟩
    · obtain ⟨w, e1, e2⟩ := S'.sl i ct' q hn
      exact ⟨w, e1, e2.mono ex (fun m a z => by cases z)⟩
    · simp only [Lab.t.injEq, List.length_append] at z
      omega
theorem s_for {g : Tg} {tg iter : Expr} {body : List Stmt} {TI : TIp'} (hp : PassesOwn (model X.prog X.w) X.A X.env X.xe) (hc : X.calm = true) (hi : PIp' c ek true X tg iter TI) (hg : PGp c X tg g) (hb : PSsp c ek X body T)
    (hs : ∀ x, foldedSetIterable iter X.env x = pure x := by intro _; rfl) : PSp c ek X (.For tg iter body [] pos) (sFor TI g T) := by
  refine ⟨fun pins s σ H D I h => ?_⟩
  obtain ⟨ρ, τ, E, S, n, hT, q1, q2, q3, q4, q5⟩ := h
  refine (ps_for hp hc hi hg hb hs).run pins s σ H D I ⟨ρ, τ, _, _, S, hT, fun ds ρ' J H' τi h1 hJ ni S1 => ?_, q5 σ, fun _ => n.alf⟩
  refine ⟨fun i m σ H => m = ds.length - i ∧ i ≤ ds.length ∧ ∃ ρ, Sim c ρ (τi ++ τ) σ H ∧ forK g T (ds.drop i) ρ E, ⟨ds.length, by simp, Nat.zero_le _, ρ', S1, h1⟩, ?_⟩
  rintro i m σ H ⟨rfl, hi, ρ, S, hf⟩
  obtain ⟨j1, j2⟩ := hJ σ H ρ [] τ i S
  by_cases hlt : i < ds.length
  · have hd : ds[i]? = some ds[i] := List.getElem?_eq_getElem hlt
    obtain ⟨jg, jy⟩ := j1 _ hd
    rw [List.drop_eq_getElem_cons hlt] at hf
    unfold forK at hf
    split at hf
    · rename_i ρ1 e1
      refine .inr ⟨jg, fun σ' H' => ∃ ρ, Sim c ρ (τi ++ τ) σ' H' ∧ forK g T (ds.drop (i + 1)) ρ E, fun σ' H' hN => ⟨ds.length - (i + 1), by omega, rfl, hlt, hN⟩, fun x H' y => ?_⟩
      obtain ⟨O, S2, rp⟩ := jy x H' y
      refine ⟨ρ, τi ++ τ, ds[i], ρ1, O, S2, .inl (ni.app n), rp, e1, fun σ' _ S3 => ?_⟩
      refine ⟨ρ1, τi ++ τ, _, ⟨O, S3⟩, ni.app n, hf, fun ρ' σ' H' e S' => ⟨ρ', S', e⟩, fun ρ' σ' H' e S' => q1 _ _ _ e S'.pops, fun ρ' σ' H' e S' => ⟨ρ', S', e⟩, fun r ρ' v σ' H' e S' => q4 _ _ _ _ _ e S'.mid, q5⟩
    · exact hf.elim
  · have e : i = ds.length := by omega
    subst e
    rw [List.drop_length] at hf
    exact .inl ⟨j2 (Nat.le_refl _), q1 _ _ _ hf S.pops⟩
/-- what is walked: data, frozen -/
def iSeq (Te : TEp) : TIp' := fun ρ R E => Te ρ (fun r ρ' => match fzC ρ' r with
  | some (.lst l, ρ1) => R l ρ1
  | some (.tup l, ρ1) => R l ρ1
  | _ => False) E
def iLst (Te : TEp) : TIp' := fun ρ R E => Te ρ (fun r ρ' => match fzC ρ' r with | some (.lst l, ρ1) => R l ρ1 | _ => False) E
def iTup (Te : TEp) : TIp' := fun ρ R E => Te ρ (fun r ρ' => match fzC ρ' r with | some (.tup l, ρ1) => R l ρ1 | _ => False) E
theorem i_lst {tg : Expr} (he : PEp c ek fl X e Te) (hK : X.K = c.K := by rfl) : PIp' c ek fl X tg e (iLst Te) := by
  refine ⟨fun pins s σ H Q I h => ?_⟩
  obtain ⟨ρ, τ, R0, E0, S, hT, q, q5⟩ := h
  refine (pi_list he).run pins s σ H Q I ⟨ρ, τ, _, _, S, hT, fun r ρ' v H' h1 S1 => ?_, q5⟩
  obtain ⟨O, S1⟩ := S1
  split at h1
  · rename_i l ρ1 e1
    obtain ⟨O2, S2, rp, _⟩ := fzC_ok S1 e1
    obtain ⟨a, vs, rfl, ha, rr⟩ := rp.top.lst
    refine ⟨a, rfl, ⟨vs, SqL.of ha⟩, q l ρ1 _ _ [(.ref a, .va (Fz (.lst l)))] h1 ?_ (fun v r m => by rcases List.mem_cons.mp m with e | m; cases e; exact ⟨_, rfl⟩; cases m) ⟨O2, S2.push rp⟩⟩
    intro σ H ρ τ0 τ i S
    obtain ⟨O, S⟩ := S
    have rp : Rp c.K H (c.av O) (.lst l) (.ref a) := S.tm.app.1
    obtain ⟨a', vs, e, ha, rr⟩ := rp.top.lst
    cases e
    refine ⟨fun d hd => ?_, fun hl => ⟨vs, SqL.of ha, by rw [rr.length]; exact hl⟩⟩
    obtain ⟨w, hw, rw'⟩ := rr.get hd
    refine ⟨⟨vs, w, SqL.of ha, hw⟩, fun x H' y => ?_⟩
    obtain ⟨e1, y⟩ := y
    subst e1
    have := y vs (SqL.of ha)
    rw [hw] at this
    cases this
    exact ⟨O, S, rw'⟩
  · exact h1.elim
theorem i_tup {tg : Expr} (he : PEp c ek fl X e Te) (hK : X.K = c.K := by rfl) : PIp' c ek fl X tg e (iTup Te) := by
  refine ⟨fun pins s σ H Q I h => ?_⟩
  obtain ⟨ρ, τ, R0, E0, S, hT, q, q5⟩ := h
  refine (pi_tup he).run pins s σ H Q I ⟨ρ, τ, _, _, S, hT, fun r ρ' v H' h1 S1 => ?_, q5⟩
  obtain ⟨O, S1⟩ := S1
  split at h1
  · rename_i l ρ1 e1
    obtain ⟨O2, S2, rp, _⟩ := fzC_ok S1 e1
    obtain ⟨a, vs, rfl, ha, rr⟩ := rp.top.tup
    refine ⟨a, rfl, ⟨vs, by rw [hK]; exact ha⟩, q l ρ1 _ _ [(.ref a, .va (Fz (.tup l)))] h1 ?_ (fun v r m => by rcases List.mem_cons.mp m with e | m; cases e; exact ⟨_, rfl⟩; cases m) ⟨O2, S2.push rp⟩⟩
    intro σ H ρ τ0 τ i S
    obtain ⟨O, S⟩ := S
    have rp : Rp c.K H (c.av O) (.tup l) (.ref a) := S.tm.app.1
    obtain ⟨a', vs, e, ha, rr⟩ := rp.top.tup
    cases e
    rw [← hK] at ha
    refine ⟨fun d hd => ?_, fun hl => ⟨vs, ha, by rw [rr.length]; exact hl⟩⟩
    obtain ⟨w, hw, rw'⟩ := rr.get hd
    refine ⟨⟨vs, w, ha, hw⟩, fun x H' y => ?_⟩
    obtain ⟨e1, y⟩ := y
    subst e1
    have := y vs ha
    rw [hw] at this
    cases this
    exact ⟨O, S, rw'⟩
  · exact h1.elim
end
end Pm

namespace Pm
open PySem PySem.Spec PyProof.Rows L2
section
variable {c : Cc} {O O' : Ow} {H H' : Hp} {ρ ρ' : En} {τ τ' : List (V × R)} {σ : St} {v : V} {ℓ ℓ' : Lab} {ct : Ct} {X : Cx} {ek : EK} {fl : Bool}
variable {a b e : Expr} {rest : List Expr} {Ta Tb Te : TEp} {TA' TB' TT' : TTp} {pos : Pos} {T U : TSp} {TA TB : TAp} {es : List Expr}

/-! ### while -/
def sWhile (t : TTp) (T : TSp) : TSp := fun ρ E => ∃ W : Nat → En → Prop, (∃ m, W m ρ) ∧ ∀ m ρ, W m ρ →
  t ρ (fun b ρ' => if b = true then T ρ' { E with nx := fun ρ'' => ∃ m', m' < m ∧ W m' ρ'', ct := fun ρ'' => ∃ m', m' < m ∧ W m' ρ'', bk := E.nx } else E.nx ρ') E.ex
theorem s_while {t : Expr} {body : List Stmt} (hp : PassesOwn (model X.prog X.w) X.A X.env X.xe) (ht : PTp c ek true X t TT') (hb : PSsp c ek X body T) : PSp c ek X (.While t body [] pos) (sWhile TT' T) := by
  refine ⟨fun pins s σ H D I h => ?_⟩
  obtain ⟨ρ, τ, E, S, n, ⟨W, ⟨m0, w0⟩, hW⟩, q1, q2, q3, q4, q5⟩ := h
  refine (ps_while hp ht hb).run pins s σ H D I ⟨fun m σ H => ∃ ρ, Sim c ρ τ σ H ∧ W m ρ, ⟨m0, ρ, S, w0⟩, fun m σ H ⟨ρ, S, w⟩ => ?_⟩
  refine ⟨ρ, τ, _, _, S, hW m ρ w, fun b ρ' H' h1 S1 => ?_, q5 σ, fun _ => n.alf⟩
  cases b with
  | true =>
    rw [if_pos rfl] at h1 ⊢
    refine ⟨fun σ' H' => ∃ m', m' < m ∧ ∃ ρ, Sim c ρ τ σ' H' ∧ W m' ρ, fun σ' H' ⟨m', hm, z⟩ => ⟨m', hm, z⟩, ρ', τ, _, S1, n, h1, ?_, q1, ?_, q4, q5⟩
    · rintro ρ2 σ' H' ⟨m', hm, w⟩ S'; exact ⟨m', hm, ρ2, S', w⟩
    · rintro ρ2 σ' H' ⟨m', hm, w⟩ S'; exact ⟨m', hm, ρ2, S', w⟩
  | false => rw [if_neg Bool.false_ne_true] at h1 ⊢; exact q1 _ _ _ h1 S1

/-! ### promises -/
abbrev Fn := List Ct → (Ct → List Ct → Prop) → (Exn → List Ct → Prop) → Prop
def Cc.mk0 (K : PySem.W.Frag) (cls : Str → Option Addr) (Z : Addr → Prop) : Cc := ⟨K, cls, Z, fun _ => none, fun _ => False, [], [], 0⟩
structure RetOk (K : PySem.W.Frag) (cls : Str → Option Addr) (Z : Addr → Prop) (H : Hp) (O : Ow) (vs : List V) (v : V) (r : Ct) (cs' : List Ct) (H' : Hp) (O' : Ow) : Prop where
  fr : ∀ a o, H a = some o → O a = none → H' a = some o
  ow : ∀ a ℓ, O' a = some ℓ → ¬ Z a ∧ (H a = none ∨ O a ≠ none) ∧ Mut (H' a)
  ret : COk (Cc.mk0 K cls Z) H' O' v .r r
  args : ∀ i v ct, vs[i]? = some v → cs'[i]? = some ct → COk (Cc.mk0 K cls Z) H' O' v (.s i) ct
def spOf (K : PySem.W.Frag) (cls : Str → Option Addr) (n : Nat) (φ : Fn) : Sp := fun vs H Q E => ∃ Z cs O R0 E0, vs.length = n ∧ cs.length = n ∧ (∀ a, Z a → H a ≠ none) ∧ (∀ a ℓ, O a = some ℓ → ¬ Z a ∧ Mut (H a)) ∧
  (∀ i v ct, vs[i]? = some v → cs[i]? = some ct → COk (Cc.mk0 K cls Z) H O v (.s i) ct) ∧ φ cs R0 E0 ∧
  (∀ r cs' v H' O', R0 r cs' → RetOk K cls Z H O vs v r cs' H' O' → Q v H') ∧ (∀ x cs', ¬ E0 x cs')
/-- contents only lean on K, cls, Z -/
theorem FOk.ctx {c c' : Cc} (h1 : c.K = c'.K) (h2 : c.cls = c'.cls) (h3 : ∀ a, c.Z a ↔ c'.Z a) {m : Lab × Option Str} {f : FC} (h : FOk c H O v m f) : FOk c' H O v m f := by
  have ha : ∀ a, c.av O a ↔ c'.av O a := fun a => by unfold Cc.av; rw [h3]
  have rp : ∀ (d : D) (v : V), Rp c.K H (c.av O) d v → Rp c'.K H (c'.av O) d v := fun d v h => by
    rw [← h1]; exact Rp.mono (fun _ _ _ h => h) (fun _ _ h => h) (fun a xs h n => ⟨h, fun z => n ((ha a).mpr z)⟩) d v h
  have rps : ∀ (d : List D) (v : List V), Rps c.K H (c.av O) d v → Rps c'.K H (c'.av O) d v := fun d v h => by
    rw [← h1]; exact Rps.mono (fun _ _ _ h => h) (fun _ _ h => h) (fun a xs h n => ⟨h, fun z => n ((ha a).mpr z)⟩) d v h
  cases f with
  | fz d => exact rp d v h
  | ow l => obtain ⟨a, vs, e, o, q, r⟩ := h; exact ⟨a, vs, e, o, q, rps _ _ r⟩
  | dk kvs => obtain ⟨a, ws, e, o, q, k, r⟩ := h; exact ⟨a, ws, e, o, q, k, rps _ _ r⟩
theorem COk.ctx {c c' : Cc} (h1 : c.K = c'.K) (h2 : c.cls = c'.cls) (h3 : ∀ a, c.Z a ↔ c'.Z a) (h : COk c H O v ℓ ct) : COk c' H O v ℓ ct := by
  cases ct with
  | no => trivial
  | «at» f => exact FOk.ctx h1 h2 h3 h
  | ob nm fs =>
    obtain ⟨x, dx, C, vfs, e, o, k, q, r⟩ := h
    exact ⟨x, dx, C, vfs, e, o, by rw [← h2]; exact k, q, r.1, fun f fc z => let ⟨w, e1, e2⟩ := r.2 f fc z; ⟨w, e1, FOk.ctx h1 h2 h3 e2⟩⟩

/-! ### a def by its body -/
def isOw : Ct → Bool
  | .no => false
  | .at (.fz _) => false
  | _ => true
def outs (cs ρ : List Ct) : List Ct := List.zipWith (fun old new => if isOw old then new else .no) cs ρ
def retK (cs : List Ct) (r : R) (ρ : En) (R0 : Ct → List Ct → Prop) : Prop := match r with
  | .va ct => R0 ct (outs cs ρ)
  | .al i => if i < cs.length then (match fzC ρ (.al i) with | some (d, ρ') => R0 (Fz d) (outs cs ρ') | none => False) else (match ρ[i]? with | some ct => R0 ct (outs cs ρ) | none => False)
  | .alf i f => match fzC ρ (.alf i f) with | some (d, ρ') => R0 (Fz d) (outs cs ρ') | none => False
def fnOf (m : Nat) (lock : List Nat) (T : TSp) : Fn := fun cs R0 E0 => (∀ i ct, cs[i]? = some ct → isOw ct = true → i ∈ lock) ∧
  T (cs ++ List.replicate m .no) ⟨fun ρ => R0 (Fz .non) (outs cs ρ), fun r ρ => retK cs r ρ R0, fun _ => False, fun _ => False, fun x ρ => E0 x (outs cs ρ)⟩
def ek0 : EK := fun E0 _ => ∀ x ρ, ¬ E0 x ρ

section
variable {P : Program} {w : World} {K : PySem.W.Frag} {cls : Str → Option Addr} {mg : Str → Option Value} {base : Heap}
theorem outs_get {cs ρ : List Ct} {i : Nat} {ct : Ct} (h : (outs cs ρ)[i]? = some ct) : ct = .no ∨ ∃ old, cs[i]? = some old ∧ isOw old = true ∧ ρ[i]? = some ct := by
  unfold outs at h
  rw [List.getElem?_zipWith] at h
  cases h1 : cs[i]? with
  | none => rw [h1] at h; cases h
  | some old =>
    rw [h1] at h
    cases h2 : ρ[i]? with
    | none => rw [h2] at h; cases h
    | some new =>
      rw [h2] at h
      simp only [Option.some.injEq] at h
      by_cases ho : isOw old = true
      · rw [if_pos ho] at h
        exact .inr ⟨old, rfl, ho, by rw [h]⟩
      · rw [if_neg ho] at h
        exact .inl h.symm
def ioOf : Nat → List V → List Ct → List (Nat × Addr)
  | i, .ref a :: vs, ct :: cs => if isOw ct then (i, a) :: ioOf (i + 1) vs cs else ioOf (i + 1) vs cs
  | i, _ :: vs, _ :: cs => ioOf (i + 1) vs cs
  | _, _, _ => []
theorem ioOf_mem : ∀ {vs : List V} {cs : List Ct} {k : Nat} {p : Nat × Addr}, p ∈ ioOf k vs cs → ∃ j, p.1 = k + j ∧ vs[j]? = some (.ref p.2) ∧ ∃ ct, cs[j]? = some ct ∧ isOw ct = true
  | [], _, _, _, h => by unfold ioOf at h; cases h
  | v :: vs, [], _, _, h => by cases v <;> (unfold ioOf at h; cases h)
  | v :: vs, ct :: cs, k, p, h => by
    have nx : p ∈ ioOf (k + 1) vs cs → ∃ j, p.1 = k + j ∧ (v :: vs)[j]? = some (.ref p.2) ∧ ∃ ct', (ct :: cs)[j]? = some ct' ∧ isOw ct' = true := fun h => by
      obtain ⟨j, e1, e2, e3⟩ := ioOf_mem h
      exact ⟨j + 1, by omega, by simpa using e2, by simpa using e3⟩
    cases v with
    | ref a =>
      unfold ioOf at h
      split at h
      · rename_i ho
        rcases List.mem_cons.mp h with e | h
        · subst e; exact ⟨0, rfl, rfl, ct, rfl, ho⟩
        · exact nx h
      · exact nx h
    | _ => unfold ioOf at h; exact nx h
theorem ioOf_has : ∀ {vs : List V} {cs : List Ct} {k j : Nat} {a : Addr} {ct : Ct}, vs[j]? = some (.ref a) → cs[j]? = some ct → isOw ct = true → (k + j, a) ∈ ioOf k vs cs
  | [], _, _, _, _, _, h, _, _ => by simp at h
  | _ :: _, [], _, _, _, _, _, h, _ => by simp at h
  | v :: vs, ct :: cs, k, 0, a, ct', h1, h2, h3 => by
    simp at h1 h2; subst h1 h2
    unfold ioOf
    rw [if_pos h3]
    exact List.mem_cons_self
  | v :: vs, ct :: cs, k, j + 1, a, ct', h1, h2, h3 => by
    have ih := ioOf_has (k := k + 1) (j := j) (vs := vs) (cs := cs) (by simpa using h1) (by simpa using h2) h3
    have e : k + 1 + j = k + (j + 1) := by omega
    rw [e] at ih
    cases v with
    | ref b =>
      unfold ioOf
      split
      · exact List.mem_cons_of_mem _ ih
      · exact ih
    | _ => unfold ioOf; exact ih
/-- the context of a def's body -/
def ccOf (K : PySem.W.Frag) (cls : Str → Option Addr) (Z : Addr → Prop) (H : Hp) (O : Ow) (vs : List V) (cs : List Ct) (lock : List Nat) (nb : Nat) : Cc := ⟨K, cls, Z, H, fun a => O a ≠ none, ioOf 0 vs cs, lock, nb⟩
theorem COk.isRef (h : COk c H O v ℓ ct) (o : isOw ct = true) : ∃ a, v = .ref a := by
  cases ct with
  | no => cases o
  | ob nm fs => obtain ⟨x, dx, C, vfs, e, _⟩ := h; exact ⟨x, e⟩
  | «at» f =>
    cases f with
    | fz d => cases o
    | ow l => obtain ⟨a, vs, e, _⟩ := h; exact ⟨a, e⟩
    | dk kvs => obtain ⟨a, vs, e, _⟩ := h; exact ⟨a, e⟩
theorem COk.non : COk c H O .non ℓ (Fz .non) := by
  show Rp c.K H (c.av O) .non .non
  exact Rp.ofNon
theorem body_sp {qual : Str} {sc : Scope} {body : List Stmt} {f : Addr} {N ps : List Str} {k m nb : Nat} {lock : List Nat} {T : TSp} {φ : Fn} (hm : N.length = ps.length + m)
    (hφ : ∀ cs R0 E0, φ cs R0 E0 → fnOf m lock T cs R0 E0)
    (hbody : ∀ (c : Cc) (cdv : Value) (A : Around) (outer : List Env) (s : Shared) (H : Hp) (E : XK), c.K = K → c.cls = cls → c.lock = lock → c.nb = nb → Room k (A.deeper (envOfC qual sc s.heap.objs.size f cdv)) →
      PSsp c ek0 (cxOf CX0 P w K mg base N qual sc f cdv A outer s H E).nox body T) (cdv : Value) (A : Around) (outer : List Env) (s : Shared) (H : Hp) (vs : List V) (Q : VK) (E : XK) (hr : Room k (A.deeper (envOfC qual sc s.heap.objs.size f cdv))) (h : spOf K cls ps.length φ vs H Q E) :
    ∃ t, PSs (cxOf CX0 P w K mg base N qual sc f cdv A outer s H E).nox body t ∧ t { nx := fun _ H' => Q .non H', rt := Q } (L2.start N vs) H := by
    obtain ⟨Z, cs, O, R0, E0, hl, hlc, hZ, hO, hA, hf, hQ, hE⟩ := h
    obtain ⟨hlk, hT⟩ := hφ _ _ _ hf
    refine ⟨_, hbody (ccOf K cls Z H O vs cs lock nb) cdv A outer s H E rfl rfl rfl rfl hr, ?_⟩
    have st0 : ∀ i v, vs[i]? = some v → (L2.start N vs)[i]? = some (some v) := fun i v h => by
      unfold L2.start
      have hi : i < vs.length := (List.getElem?_eq_some_iff.mp h).1
      rw [List.getElem?_append_left (by simpa using hi), List.getElem?_map, h]; rfl
    have cx : ∀ {H' : Hp} {O' : Ow} {v : V} {ℓ : Lab} {ct : Ct}, COk (ccOf K cls Z H O vs cs lock nb) H' O' v ℓ ct → COk (Cc.mk0 K cls Z) H' O' v ℓ ct := fun h => COk.ctx rfl rfl (fun _ => Iff.rfl) h
    have S0 : Sim (ccOf K cls Z H O vs cs lock nb) (cs ++ List.replicate m .no) [] (L2.start N vs) H := by
      refine ⟨O, ?_, fun a o h _ => h, fun a ℓ q => ⟨(hO a ℓ q).1, .inr (by show O a ≠ none; rw [q]; simp), (hO a ℓ q).2⟩, hZ, fun p hp => ?_, fun i ct q n => ?_, trivial⟩
      · unfold L2.start
        simp only [List.length_append, List.length_map, List.length_replicate]
        omega
      · obtain ⟨j, e1, e2, ct, e3, e4⟩ := ioOf_mem hp
        have e5 : p.1 = j := by omega
        rw [e5]
        exact ⟨hlk j ct e3 e4, st0 _ _ e2⟩
      · by_cases hi : i < cs.length
        · rw [List.getElem?_append_left hi] at q
          obtain ⟨v, hv⟩ : ∃ v, vs[i]? = some v := ⟨vs[i], List.getElem?_eq_getElem (by omega)⟩
          exact ⟨v, st0 i v hv, COk.ctx rfl rfl (fun _ => Iff.rfl) (hA i v ct hv q)⟩
        · rw [List.getElem?_append_right (by omega), List.getElem?_replicate] at q
          split at q
          · cases q; exact absurd rfl n
          · cases q
    -- what a def's end hands on
    have fin : ∀ {H' : Hp} {O' : Ow} {σ' : St} {ρ' : En} {v : V} {r : Ct}, Sim0 (ccOf K cls Z H O vs cs lock nb) H' O' ρ' [] σ' → COk (ccOf K cls Z H O vs cs lock nb) H' O' v .r r → (∀ a ℓ, O' a = some ℓ → True) → R0 r (outs cs ρ') → Q v H' := fun {H' O' σ' ρ' v r} S' hr' _ h0 => by
      refine hQ _ _ _ H' O' h0 ⟨fun a o h1 h2 => S'.fr a o h1 (fun z => z h2), fun a ℓ q => ?_, cx hr', fun i u ct h1 h2 => ?_⟩
      · obtain ⟨z1, z2, z3⟩ := S'.ow a ℓ q
        exact ⟨z1, z2, z3⟩
      · rcases outs_get h2 with e | ⟨old, e1, e2, e3⟩
        · subst e; trivial
        · obtain ⟨a, ea⟩ := (hA i u old h1 e1).isRef e2
          subst ea
          have hio := (S'.io (i, a) (by have := ioOf_has (k := 0) h1 e1 e2; rw [Nat.zero_add] at this; exact this)).2
          by_cases hn : ct = .no
          · subst hn; trivial
          obtain ⟨w', e4, e5⟩ := S'.sl i ct e3 hn
          rw [hio] at e4; cases e4
          exact cx e5
    refine ⟨_, [], _, S0, fun v r m => (by cases m), hT, fun ρ' σ' H' h1 ⟨O', S'⟩ => fin S' (r := Fz .non) COk.non (fun _ _ _ => trivial) h1, fun _ _ _ z => z.elim, fun _ _ _ z => z.elim, fun r ρ' v σ' H' h1 ⟨O', S'⟩ => ?_, fun σ' x ρ z => hE _ _ z⟩
    have fz : (match fzC ρ' r with | some (d, ρ'') => R0 (Fz d) (outs cs ρ'') | none => False) → Q v H' := fun h1 => by
      split at h1
      · rename_i d ρ2 e1
        obtain ⟨O2, S2, rp, _⟩ := fzC_ok S' e1
        exact fin S2 (r := Fz d) rp (fun _ _ _ => trivial) h1
      · exact h1.elim
    cases r with
    | alf i g => exact fz h1
    | va ct =>
      have S2 := S'.pop
      have hc : COk _ H' (O'.re (.t 0) .r) v .r ct := COk.re S'.tm.1
      have ex : Ext (ccOf K cls Z H O vs cs lock nb) (fun l _ => l.1 = .t 0) O' (O'.re (.t 0) .r) H' H' := Ext.re
      refine fin (O' := O'.re (.t 0) .r) (σ' := σ') ⟨S2.len, S2.fr, S2.ow_re, S2.zt, S2.io, fun i ct' q hn => ?_, trivial⟩ hc (fun _ _ _ => trivial) h1
      obtain ⟨u, e1, e2⟩ := S2.sl i ct' q hn
      exact ⟨u, e1, e2.mono ex (fun m a z => by cases z)⟩
    | al i =>
      have h1 : (if i < cs.length then (match fzC ρ' (.al i) with | some (d, ρ') => R0 (Fz d) (outs cs ρ') | none => False) else (match ρ'[i]? with | some ct => R0 ct (outs cs ρ') | none => False)) := h1
      by_cases hi : i < cs.length
      · rw [if_pos hi] at h1; exact fz h1
      · rw [if_neg hi] at h1
        split at h1
        · rename_i ct e1
          have hv := S'.tm.1.2
          have S2 := S'.pop
          by_cases hn : ct = .no
          · subst hn
            exact fin S2 (r := .no) trivial (fun _ _ _ => trivial) h1
          obtain ⟨u, e4, e5⟩ := S2.sl i ct e1 hn
          rw [hv] at e4; cases e4
          have ex : Ext (ccOf K cls Z H O vs cs lock nb) (fun l _ => l.1 = .s i) O' (O'.re (.s i) .r) H' H' := Ext.re
          have hc : COk _ H' (O'.re (.s i) .r) v .r ct := COk.re e5
          -- the slot itself is forgotten
          have ho : outs cs ρ' = outs cs (ρ'.set i .no) := by
            apply List.ext_getElem?
            intro j
            unfold outs
            rw [List.getElem?_zipWith, List.getElem?_zipWith]
            by_cases hj : j = i
            · subst hj
              rw [List.getElem?_eq_none (show cs.length ≤ j by omega)]
            · rw [List.getElem?_set_ne (Ne.symm hj)]
          rw [ho] at h1
          refine fin (O' := O'.re (.s i) .r) (σ' := σ') ⟨by rw [List.length_set]; exact S2.len, S2.fr, S2.ow_re, S2.zt, S2.io, fun j ct' q hn' => ?_, trivial⟩ hc (fun _ _ _ => trivial) h1
          by_cases hj : j = i
          · subst hj
            by_cases hl : j < ρ'.length
            · rw [List.getElem?_set_self hl] at q; cases q; exact absurd rfl hn'
            · rw [List.getElem?_eq_none (by simpa using hl)] at q; cases q
          · rw [List.getElem?_set_ne (Ne.symm hj)] at q
            obtain ⟨u', e1', e2'⟩ := S2.sl j ct' q hn'
            exact ⟨u', e1', e2'.mono ex (fun m a z => by cases z; exact hj rfl)⟩
        · exact h1.elim
/-- a def without defaults -/
theorem fn_ok {x qual : Str} {st : Stmt} {f : Addr} {fd : FuncData} {N ps : List Str} {k m nb : Nat} {lock : List Nat} {T : TSp} {φ : Fn} (F : Fun K x qual st f fd) (S : FnScope N ps (defScope st)) (hm : N.length = ps.length + m)
    (hφ : ∀ cs R0 E0, φ cs R0 E0 → fnOf m lock T cs R0 E0)
    (hbody : ∀ (c : Cc) (cdv : Value) (A : Around) (outer : List Env) (s : Shared) (H : Hp) (E : XK), c.K = K → c.cls = cls → c.lock = lock → c.nb = nb → Room k (A.deeper (envOfC qual (defScope st) s.heap.objs.size f cdv)) →
      PSsp c ek0 (cxOf CX0 P w K mg base N qual (defScope st) f cdv A outer s H E).nox (defBody st) T) : FnOk P w K mg base CX0 (k + 1) f fd ps (spOf K cls ps.length φ) :=
  F.ok S (fun vs H Q E h => let ⟨_, _, _, _, _, h1, _⟩ := h; h1) (body_sp hm hφ hbody)
end
end
end Pm

namespace Pm
open PySem PySem.Spec PyProof.Rows L2
section
variable {c : Cc} {O O' : Ow} {H H' : Hp} {ρ ρ' : En} {τ τ' : List (V × R)} {σ : St} {v : V} {ℓ ℓ' : Lab} {ct : Ct} {X : Cx} {ek : EK} {fl : Bool}
variable {a b e : Expr} {rest : List Expr} {Ta Tb Te : TEp} {TA' TB' TT' : TTp} {pos : Pos} {T U : TSp} {TA TB : TAp} {es : List Expr}

/-! ### a call of a def -/
abbrev Xs := List (D ⊕ Nat)
def fzM : List Bool → List R → En → Option (Xs × En)
  | [], [], ρ => some ([], ρ)
  | m :: ms, r :: rs, ρ => match fzM ms rs ρ with
    | none => none
    | some (xs, ρ1) => match m, r with
      | true, .al i => some (.inr i :: xs, ρ1)
      | true, _ => none
      | false, r => match fzC ρ1 r with
        | some (d, ρ2) => some (.inl d :: xs, ρ2)
        | none => none
  | _, _, _ => none
def brs : Xs → List Nat
  | [] => []
  | .inl _ :: xs => brs xs
  | .inr i :: xs => i :: brs xs
def cts (ρ : En) : Xs → List Ct
  | [] => []
  | .inl d :: xs => Fz d :: cts ρ xs
  | .inr i :: xs => ρ.getD i .no :: cts ρ xs
def wb : Xs → List Ct → En → En
  | .inl _ :: xs, _ :: cs, ρ => wb xs cs ρ
  | .inr i :: xs, ct :: cs, ρ => wb xs cs (ρ.set i ct)
  | .inr i :: xs, [], ρ => wb xs [] (ρ.set i .no)
  | .inl _ :: xs, [], ρ => wb xs [] ρ
  | [], _, ρ => ρ
def callK (φ : Fn) (ms : List Bool) (dcs : List D) (rs : List R) (ρ : En) (R0 : R → En → Prop) (E : Exn → En → Prop) : Prop := match fzM ms rs ρ with
  | some (xs, ρ1) => (brs xs).Nodup ∧ (∀ i ∈ brs xs, isOw (ρ1.getD i .no) = true) ∧ φ (cts ρ1 xs ++ dcs.map Fz) (fun r cs' => R0 (.va r) (wb xs cs' ρ1)) (fun x cs' => E x (wb xs cs' ρ1))
  | none => False
def AOk (c : Cc) (H : Hp) (O : Ow) (σ : St) : Xs → List V → Prop
  | [], vs => vs = []
  | .inl d :: xs, vs => ∃ v r, vs = v :: r ∧ Rp c.K H (c.av O) d v ∧ AOk c H O σ xs r
  | .inr i :: xs, vs => ∃ v r, vs = v :: r ∧ σ[i]? = some (some v) ∧ AOk c H O σ xs r
theorem AOk.mono (h : ∀ a, c.av O' a → c.av O a) : ∀ {xs : Xs} {vs : List V}, AOk c H O σ xs vs → AOk c H O' σ xs vs
  | [], _, q => q
  | .inl d :: xs, _, q => by
    obtain ⟨v, r, e, h1, h2⟩ := q
    exact ⟨v, r, e, Rp.mono (fun _ _ _ h => h) (fun _ _ h => h) (fun a xs h' n => ⟨h', fun z => n (h a z)⟩) _ _ h1, AOk.mono h h2⟩
  | .inr i :: xs, _, q => by
    obtain ⟨v, r, e, h1, h2⟩ := q
    exact ⟨v, r, e, h1, AOk.mono h h2⟩
theorem fzM_ok : ∀ {ms : List Bool} {rs : List R} {vs : List V} {τ : List (V × R)} {ρ ρ' : En} {O : Ow} {xs : Xs}, vs.length = rs.length → Sim0 c H O ρ (tmps τ vs rs) σ → fzM ms rs ρ = some (xs, ρ') →
    ∃ O', Sim0 c H O' ρ' τ σ ∧ AOk c H O' σ xs vs ∧ ∀ a, c.av O' a → c.av O a
  | [], [], [], τ, ρ, ρ', O, xs, _, S, e => by unfold fzM at e; cases e; exact ⟨O, S, rfl, fun _ h => h⟩
  | _ :: _, [], _, _, _, _, _, _, _, _, e => by unfold fzM at e; cases e
  | [], _ :: _, _, _, _, _, _, _, _, _, e => by unfold fzM at e; cases e
  | [], [], _ :: _, _, _, _, _, _, hl, _, _ => by cases hl
  | _ :: _, _ :: _, [], _, _, _, _, _, hl, _, _ => by cases hl
  | m :: ms, r :: rs, v :: vs, τ, ρ, ρ', O, xs, hl, S, e => by
    unfold fzM at e
    cases q1 : fzM ms rs ρ with
    | none => rw [q1] at e; cases e
    | some p =>
      obtain ⟨xs1, ρ1⟩ := p
      rw [q1] at e
      obtain ⟨O1, S1, A1, m1⟩ := fzM_ok (τ := (v, r) :: τ) (by simpa using hl) S q1
      cases m with
      | true =>
        cases r with
        | al i => cases e; exact ⟨O1, S1.pop, ⟨v, vs, rfl, S1.tm.1.2, A1⟩, m1⟩
        | alf i f => cases e
        | va ct => cases e
      | false =>
        simp only at e
        cases q2 : fzC ρ1 r with
        | none => rw [q2] at e; cases e
        | some p =>
          obtain ⟨d, ρ2⟩ := p
          rw [q2] at e
          cases e
          obtain ⟨O2, S2, R2, m2⟩ := fzC_ok S1 q2
          exact ⟨O2, S2, ⟨v, vs, rfl, R2, A1.mono m2⟩, fun a h => m1 a (m2 a h)⟩
/-- contents under other labels and another context -/
theorem COk.map {c c' : Cc} {O O' : Ow} (h1 : c.K = c'.K) (h2 : c.cls = c'.cls) (hl : ∀ a m, O a = some (ℓ, m) → O' a = some (ℓ', m)) (ha : ∀ a, c'.av O' a → c.av O a) (h : COk c H O v ℓ ct) : COk c' H O' v ℓ' ct := by
  have rp : ∀ (d : D) (v : V), Rp c.K H (c.av O) d v → Rp c'.K H (c'.av O') d v := fun d v h => by
    rw [← h1]; exact Rp.mono (fun _ _ _ h => h) (fun _ _ h => h) (fun a xs h n => ⟨h, fun z => n (ha a z)⟩) d v h
  have rps : ∀ (d : List D) (v : List V), Rps c.K H (c.av O) d v → Rps c'.K H (c'.av O') d v := fun d v h => by
    rw [← h1]; exact Rps.mono (fun _ _ _ h => h) (fun _ _ h => h) (fun a xs h n => ⟨h, fun z => n (ha a z)⟩) d v h
  have fo : ∀ (f : FC) (v : V) (m : Option Str), FOk c H O v (ℓ, m) f → FOk c' H O' v (ℓ', m) f := fun f v m h => by
    cases f with
    | fz d => exact rp d v h
    | ow l => obtain ⟨a, vs, e, o, q, r⟩ := h; exact ⟨a, vs, e, hl _ _ o, q, rps _ _ r⟩
    | dk kvs => obtain ⟨a, ws, e, o, q, k, r⟩ := h; exact ⟨a, ws, e, hl _ _ o, q, k, rps _ _ r⟩
  cases ct with
  | no => trivial
  | «at» f => exact fo _ _ _ h
  | ob nm fs =>
    obtain ⟨x, dx, C, vfs, e, o, k, q, r⟩ := h
    exact ⟨x, dx, C, vfs, e, hl _ _ o, by rw [← h2]; exact k, q, r.1, fun f fc z => let ⟨w, e1, e2⟩ := r.2 f fc z; ⟨w, e1, fo _ _ _ e2⟩⟩
def kOf : Xs → Nat → Nat → Option Nat
  | [], _, _ => none
  | .inl _ :: xs, i, k => kOf xs i (k + 1)
  | .inr j :: xs, i, k => if j = i then some k else kOf xs i (k + 1)
theorem kOf_get : ∀ {xs : Xs} {i k n : Nat}, kOf xs i k = some n → ∃ j, n = k + j ∧ xs[j]? = some (.inr i)
  | [], _, _, _, h => by unfold kOf at h; cases h
  | .inl _ :: xs, i, k, n, h => by
    unfold kOf at h
    obtain ⟨j, e1, e2⟩ := kOf_get h
    exact ⟨j + 1, by omega, by simpa using e2⟩
  | .inr m :: xs, i, k, n, h => by
    unfold kOf at h
    split at h
    · rename_i e; subst e; cases h; exact ⟨0, rfl, rfl⟩
    · obtain ⟨j, e1, e2⟩ := kOf_get h
      exact ⟨j + 1, by omega, by simpa using e2⟩
theorem mem_brs : ∀ {xs : Xs} {i j : Nat}, xs[j]? = some (.inr i) → i ∈ brs xs
  | [], _, _, h => by simp at h
  | .inl _ :: xs, i, 0, h => by simp at h
  | .inl _ :: xs, i, j + 1, h => by unfold brs; exact mem_brs (j := j) (by simpa using h)
  | .inr m :: xs, i, 0, h => by
    simp at h; subst h
    unfold brs; exact List.mem_cons_self
  | .inr m :: xs, i, j + 1, h => by unfold brs; exact List.mem_cons_of_mem _ (mem_brs (j := j) (by simpa using h))
theorem kOf_has : ∀ {xs : Xs} {i j k : Nat}, (brs xs).Nodup → xs[j]? = some (.inr i) → kOf xs i k = some (k + j)
  | [], _, _, _, _, h => by simp at h
  | .inl _ :: xs, i, 0, _, _, h => by simp at h
  | .inl _ :: xs, i, j + 1, k, n, h => by
    unfold kOf
    rw [kOf_has (j := j) (by unfold brs at n; exact n) (by simpa using h)]
    congr 1; omega
  | .inr m :: xs, i, 0, k, n, h => by
    simp at h; subst h
    unfold kOf
    rw [if_pos rfl]; rfl
  | .inr m :: xs, i, j + 1, k, n, h => by
    have h' : xs[j]? = some (.inr i) := by simpa using h
    unfold brs at n
    have ne : m ≠ i := fun z => (List.nodup_cons.mp n).1 (by rw [z]; exact mem_brs h')
    unfold kOf
    rw [if_neg ne, kOf_has (j := j) (List.nodup_cons.mp n).2 h']
    congr 1; omega
theorem kOf_none {xs : Xs} {i : Nat} (h : kOf xs i 0 = none) (n : (brs xs).Nodup) {j : Nat} : xs[j]? ≠ some (.inr i) := fun z => by
  rw [kOf_has (k := 0) n z] at h; cases h
theorem wb_len : ∀ {xs : Xs} {cs : List Ct} {ρ : En}, (wb xs cs ρ).length = ρ.length
  | [], cs, ρ => by unfold wb; rfl
  | .inl _ :: xs, [], ρ => by unfold wb; exact wb_len
  | .inl _ :: xs, _ :: cs, ρ => by unfold wb; exact wb_len
  | .inr i :: xs, [], ρ => by unfold wb; rw [wb_len, List.length_set]
  | .inr i :: xs, _ :: cs, ρ => by unfold wb; rw [wb_len, List.length_set]
theorem wb_out {i : Nat} : ∀ {xs : Xs} {cs : List Ct} {ρ : En}, i ∉ brs xs → (wb xs cs ρ)[i]? = ρ[i]?
  | [], cs, ρ, _ => by unfold wb; rfl
  | .inl _ :: xs, [], ρ, h => by unfold wb; exact wb_out (by unfold brs at h; exact h)
  | .inl _ :: xs, _ :: cs, ρ, h => by unfold wb; exact wb_out (by unfold brs at h; exact h)
  | .inr j :: xs, [], ρ, h => by
    unfold brs at h
    unfold wb
    rw [wb_out (fun z => h (List.mem_cons_of_mem _ z)), List.getElem?_set_ne (fun z => h (by rw [z]; exact List.mem_cons_self))]
  | .inr j :: xs, _ :: cs, ρ, h => by
    unfold brs at h
    unfold wb
    rw [wb_out (fun z => h (List.mem_cons_of_mem _ z)), List.getElem?_set_ne (fun z => h (by rw [z]; exact List.mem_cons_self))]
theorem wb_in {i : Nat} : ∀ {xs : Xs} {cs : List Ct} {ρ : En} {j : Nat} {ct : Ct}, (brs xs).Nodup → xs[j]? = some (.inr i) → (wb xs cs ρ)[i]? = some ct → ct ≠ .no → cs[j]? = some ct
  | [], _, _, _, _, _, h, _, _ => by simp at h
  | .inl _ :: xs, _, _, 0, _, _, h, _, _ => by simp at h
  | .inl _ :: xs, [], ρ, j + 1, ct, n, h, q, hn => by
    unfold wb at q
    have := wb_in (xs := xs) (j := j) (by unfold brs at n; exact n) (by simpa using h) q hn
    simp at this
  | .inl _ :: xs, _ :: cs, ρ, j + 1, ct, n, h, q, hn => by
    unfold wb at q
    have := wb_in (xs := xs) (j := j) (by unfold brs at n; exact n) (by simpa using h) q hn
    simpa using this
  | .inr m :: xs, cs, ρ, 0, ct, n, h, q, hn => by
    simp at h; subst h
    unfold brs at n
    have nm := (List.nodup_cons.mp n).1
    cases cs with
    | nil =>
      unfold wb at q
      rw [wb_out nm] at q
      by_cases hl : m < ρ.length
      · rw [List.getElem?_set_self hl] at q; cases q; exact absurd rfl hn
      · rw [List.getElem?_eq_none (by simpa using hl)] at q; cases q
    | cons c0 cs =>
      unfold wb at q
      rw [wb_out nm] at q
      by_cases hl : m < ρ.length
      · rw [List.getElem?_set_self hl] at q; cases q; rfl
      · rw [List.getElem?_eq_none (by simpa using hl)] at q; cases q
  | .inr m :: xs, cs, ρ, j + 1, ct, n, h, q, hn => by
    unfold brs at n
    cases cs with
    | nil =>
      unfold wb at q
      have := wb_in (xs := xs) (j := j) (List.nodup_cons.mp n).2 (by simpa using h) q hn
      simp at this
    | cons c0 cs =>
      unfold wb at q
      have := wb_in (xs := xs) (j := j) (List.nodup_cons.mp n).2 (by simpa using h) q hn
      simpa using this
theorem AOk.len : ∀ {xs : Xs} {vs : List V}, AOk c H O σ xs vs → vs.length = xs.length
  | [], _, q => by rw [show _ = _ from q]; rfl
  | .inl d :: xs, _, q => by obtain ⟨v, r, e, h1, h2⟩ := q; rw [e]; simp [AOk.len h2]
  | .inr i :: xs, _, q => by obtain ⟨v, r, e, h1, h2⟩ := q; rw [e]; simp [AOk.len h2]
theorem AOk.inl : ∀ {xs : Xs} {vs : List V} {j : Nat} {d : D}, AOk c H O σ xs vs → xs[j]? = some (.inl d) → ∃ v, vs[j]? = some v ∧ Rp c.K H (c.av O) d v
  | [], _, _, _, _, h => by simp at h
  | .inl d :: xs, _, 0, _, q, h => by obtain ⟨v, r, e, h1, h2⟩ := q; subst e; simp at h; subst h; exact ⟨v, rfl, h1⟩
  | .inr i :: xs, _, 0, _, q, h => by simp at h
  | .inl _ :: xs, _, j + 1, _, q, h => by obtain ⟨v, r, e, h1, h2⟩ := q; subst e; obtain ⟨w, e1, e2⟩ := AOk.inl (j := j) h2 (by simpa using h); exact ⟨w, by simpa using e1, e2⟩
  | .inr _ :: xs, _, j + 1, _, q, h => by obtain ⟨v, r, e, h1, h2⟩ := q; subst e; obtain ⟨w, e1, e2⟩ := AOk.inl (j := j) h2 (by simpa using h); exact ⟨w, by simpa using e1, e2⟩
theorem AOk.inr : ∀ {xs : Xs} {vs : List V} {j i : Nat}, AOk c H O σ xs vs → xs[j]? = some (.inr i) → ∃ v, vs[j]? = some v ∧ σ[i]? = some (some v)
  | [], _, _, _, _, h => by simp at h
  | .inr d :: xs, _, 0, _, q, h => by obtain ⟨v, r, e, h1, h2⟩ := q; subst e; simp at h; subst h; exact ⟨v, rfl, h1⟩
  | .inl i :: xs, _, 0, _, q, h => by simp at h
  | .inl _ :: xs, _, j + 1, _, q, h => by obtain ⟨v, r, e, h1, h2⟩ := q; subst e; obtain ⟨w, e1, e2⟩ := AOk.inr (j := j) h2 (by simpa using h); exact ⟨w, by simpa using e1, e2⟩
  | .inr _ :: xs, _, j + 1, _, q, h => by obtain ⟨v, r, e, h1, h2⟩ := q; subst e; obtain ⟨w, e1, e2⟩ := AOk.inr (j := j) h2 (by simpa using h); exact ⟨w, by simpa using e1, e2⟩
theorem cts_get : ∀ {xs : Xs} {j : Nat}, (cts ρ xs)[j]? = (xs[j]?).map fun x => match x with | .inl d => Fz d | .inr i => ρ.getD i .no
  | [], j => by simp [cts]
  | .inl d :: xs, 0 => by simp [cts]
  | .inr d :: xs, 0 => by simp [cts]
  | .inl d :: xs, j + 1 => by simp [cts, cts_get]
  | .inr d :: xs, j + 1 => by simp [cts, cts_get]
theorem cts_len : ∀ {xs : Xs}, (cts ρ xs).length = xs.length
  | [] => rfl
  | .inl d :: xs => by simp [cts, cts_len]
  | .inr d :: xs => by simp [cts, cts_len]
/-- the callee's labels, what it must not touch -/
def calO (O : Ow) (xs : Xs) : Ow := fun a => match O a with
  | some (.s i, m) => (kOf xs i 0).map fun k => (.s k, m)
  | _ => none
def calZ (c : Cc) (O : Ow) (xs : Xs) : Addr → Prop := fun a => c.Z a ∨ (O a ≠ none ∧ calO O xs a = none)
/-- the labels behind the call -/
def backO (O O' : Ow) (xs : Xs) (n : Nat) : Ow := fun a => match O' a with
  | some (.s k, m) => match xs[k]? with
    | some (.inr i) => some (.s i, m)
    | _ => none
  | some (.r, m) => some (.t n, m)
  | some (.t _, _) => none
  | none => if calO O xs a = none then O a else none
theorem calO_some {xs : Xs} {p : Addr} {l : Lab × Option Str} (h : calO O xs p = some l) : ∃ i m k, O p = some (.s i, m) ∧ kOf xs i 0 = some k ∧ l = (.s k, m) := by
  unfold calO at h
  split at h
  · rename_i i m e
    cases q : kOf xs i 0 with
    | none => rw [q] at h; cases h
    | some k => rw [q] at h; cases h; exact ⟨i, m, k, e, q, rfl⟩
  · cases h
theorem av_cal {xs : Xs} {K : PySem.W.Frag} {cls : Str → Option Addr} (p : Addr) : (Cc.mk0 K cls (calZ c O xs)).av (calO O xs) p ↔ c.av O p := by
  show (calZ c O xs p ∨ calO O xs p ≠ none) ↔ (c.Z p ∨ O p ≠ none)
  unfold calZ
  constructor
  · rintro ((h | h) | h)
    · exact .inl h
    · exact .inr h.1
    · refine .inr fun z => h ?_
      unfold calO; rw [z]
  · rintro (h | h)
    · exact .inl (.inl h)
    · by_cases q : calO O xs p = none
      · exact .inl (.inr ⟨h, q⟩)
      · exact .inr q
theorem fzM_len : ∀ {ms : List Bool} {rs : List R} {ρ ρ' : En} {xs : Xs}, fzM ms rs ρ = some (xs, ρ') → xs.length = ms.length
  | [], [], _, _, _, e => by unfold fzM at e; cases e; rfl
  | [], _ :: _, _, _, _, e => by unfold fzM at e; cases e
  | _ :: _, [], _, _, _, e => by unfold fzM at e; cases e
  | m :: ms, r :: rs, ρ, ρ', xs, e => by
    unfold fzM at e
    cases q : fzM ms rs ρ with
    | none => rw [q] at e; cases e
    | some p =>
      obtain ⟨xs', ρ1⟩ := p
      have l := fzM_len q
      rw [q] at e
      cases m with
      | true => cases r <;> cases e; simp [l]
      | false =>
        simp only at e
        cases q2 : fzC ρ1 r with
        | none => rw [q2] at e; cases e
        | some p => obtain ⟨d, ρ''⟩ := p; rw [q2] at e; cases e; simp [l]
theorem fzM_brs : ∀ {ms : List Bool} {rs : List R} {ρ ρ' : En} {xs : Xs}, ms.all (fun b => !b) = true → fzM ms rs ρ = some (xs, ρ') → brs xs = []
  | [], [], _, _, _, _, e => by unfold fzM at e; cases e; rfl
  | [], _ :: _, _, _, _, _, e => by unfold fzM at e; cases e
  | _ :: _, [], _, _, _, _, e => by unfold fzM at e; cases e
  | m :: ms, r :: rs, ρ, ρ', xs, h, e => by
    unfold fzM at e
    simp only [List.all_cons, Bool.and_eq_true] at h
    cases q : fzM ms rs ρ with
    | none => rw [q] at e; cases e
    | some p =>
      obtain ⟨xs', ρ1⟩ := p
      have l := fzM_brs h.2 q
      rw [q] at e
      cases m with
      | true => cases h.1
      | false =>
        simp only at e
        cases q2 : fzC ρ1 r with
        | none => rw [q2] at e; cases e
        | some p => obtain ⟨d, ρ''⟩ := p; rw [q2] at e; cases e; unfold brs; exact l
theorem brs_has : ∀ {xs : Xs} {j : Nat}, j ∈ brs xs → ∃ k : Nat, xs[k]? = some (Sum.inr j)
  | [], _, h => by unfold brs at h; cases h
  | .inl _ :: xs, j, h => by unfold brs at h; obtain ⟨k, e⟩ := brs_has h; exact ⟨k + 1, by simpa using e⟩
  | .inr i :: xs, j, h => by
    unfold brs at h
    rcases List.mem_cons.mp h with e | h
    · subst e; exact ⟨0, rfl⟩
    · obtain ⟨k, e⟩ := brs_has h; exact ⟨k + 1, by simpa using e⟩
theorem call_core {φ : Fn} {xs : Xs} {dcs : List D} {dvs : List V} {vs : List V} {ρ1 : En} {O1 : Ow} {n : Nat} {R0 : R → En → Prop} {E0 : Exn → En → Prop} {Q : VK} {E : XK} (hfl : ∀ v i f, (v, R.alf i f) ∈ τ → i ∉ brs xs) (hd : ∀ H A, Rps c.K H A dcs dvs) (lx : xs.length + dcs.length = n)
    (S1 : Sim0 c H O1 ρ1 τ σ) (A1 : AOk c H O1 σ xs vs) (hnd : (brs xs).Nodup) (how : ∀ i ∈ brs xs, isOw (ρ1.getD i .no) = true) (hφ : φ (cts ρ1 xs ++ dcs.map Fz) (fun r cs' => R0 (.va r) (wb xs cs' ρ1)) (fun x cs' => E0 x (wb xs cs' ρ1)))
    (hE : ∀ x ρ, ¬ E0 x ρ) (hQ : ∀ r ρ' v H', R0 r ρ' → Sim c ρ' ((v, r) :: τ) σ H' → Q v H') : spOf c.K c.cls n φ (vs ++ dvs) H Q E := by
  have lv := A1.len
  have ld : dvs.length = dcs.length := (hd (fun _ => none) (fun _ => False)).length
  refine ⟨calZ c O1 xs, cts ρ1 xs ++ dcs.map Fz, calO O1 xs, _, _, by rw [List.length_append]; omega, by rw [List.length_append, cts_len, List.length_map]; omega, fun a z => ?_, fun a ℓ q => ?_, fun i v ct h1 h2 => ?_, hφ, fun r cs' v H' O' h1 K' => ?_, fun x cs' z => hE _ _ z⟩
  · rcases z with z | z
    · exact S1.zt a z
    · cases q : O1 a with
      | none => exact absurd q z.1
      | some l => have := (S1.ow a l q).2.2; intro hn; rw [hn] at this; exact this
  · obtain ⟨i, m, k, e2, e3, e4⟩ := calO_some q
    refine ⟨?_, (S1.ow a _ e2).2.2⟩
    rintro (z | z)
    · exact (S1.ow a _ e2).1 z
    · rw [q] at z; cases z.2
  · by_cases hi : i < xs.length
    · rw [List.getElem?_append_left (by rw [cts_len]; exact hi), cts_get] at h2
      rw [List.getElem?_append_left (by omega)] at h1
      have hx : xs[i]? = some xs[i] := List.getElem?_eq_getElem hi
      cases hxi : xs[i] with
      | inl d =>
        rw [hxi] at hx
        rw [hx] at h2
        cases h2
        obtain ⟨u, e2, e3⟩ := A1.inl hx
        rw [h1] at e2; cases e2
        exact Rp.mono (fun _ _ _ h => h) (fun _ _ h => h) (fun a xs' h n => ⟨h, fun z => n ((av_cal a).mp z)⟩) d v e3
      | inr j =>
        rw [hxi] at hx
        rw [hx] at h2
        cases h2
        obtain ⟨u, e2, e3⟩ := A1.inr hx
        rw [h1] at e2; cases e2
        have hw := how j (mem_brs hx)
        cases hc : ρ1[j]? with
        | none => rw [List.getD_eq_getElem?_getD, hc] at hw; cases hw
        | some ct' =>
          have e5 : ρ1.getD j .no = ct' := by rw [List.getD_eq_getElem?_getD, hc]; rfl
          rw [e5] at hw
          show COk (Cc.mk0 c.K c.cls (calZ c O1 xs)) H (calO O1 xs) v (.s i) (ρ1.getD j .no)
          rw [e5]
          obtain ⟨u, e6, e7⟩ := S1.sl j ct' hc (by intro z; subst z; cases hw)
          rw [e3] at e6; cases e6
          refine COk.map (c := c) (c' := Cc.mk0 c.K c.cls (calZ c O1 xs)) (O := O1) (O' := calO O1 xs) (ℓ := .s j) (ℓ' := .s i) rfl rfl (fun a m q => ?_) (fun a z => (av_cal a).mp z) e7
          have hk := kOf_has (k := 0) hnd hx
          rw [Nat.zero_add] at hk
          unfold calO
          rw [q]
          show (kOf xs j 0).map _ = _
          rw [hk]; rfl
    · rw [List.getElem?_append_right (by rw [cts_len]; omega), cts_len, List.getElem?_map] at h2
      rw [List.getElem?_append_right (by omega)] at h1
      rw [lv] at h1
      cases hq : dcs[i - xs.length]? with
      | none => rw [hq] at h2; cases h2
      | some d =>
        rw [hq] at h2; cases h2
        obtain ⟨u, e2, e3⟩ := (hd H ((Cc.mk0 c.K c.cls (calZ c O1 xs)).av (calO O1 xs))).get hq
        rw [h1] at e2; cases e2
        exact e3
  · -- behind the call
    refine hQ _ _ _ _ h1 ⟨backO O1 O' xs τ.length, ?_⟩
    have cal0 : ∀ a o, H a = some o → O1 a = none → calO O1 xs a = none := fun a o _ z => by unfold calO; rw [z]
    have oNone : ∀ a o, H a = some o → calO O1 xs a = none → O' a = none := fun a o h1 h2 => by
      cases q : O' a with
      | none => rfl
      | some l =>
        rcases (K'.ow a l q).2.1 with z | z
        · rw [h1] at z; cases z
        · exact absurd h2 z
    have bkN : ∀ a o, H a = some o → calO O1 xs a = none → backO O1 O' xs τ.length a = O1 a := fun a o h1 h2 => by
      unfold backO
      rw [oNone a o h1 h2, if_pos h2]
    have avB : ∀ a, c.av (backO O1 O' xs τ.length) a → (Cc.mk0 c.K c.cls (calZ c O1 xs)).av O' a := fun a z => by
      rcases z with z | z
      · exact .inl (.inl z)
      · cases q : O' a with
        | some l => exact .inr (by rw [q]; simp)
        | none =>
          unfold backO at z
          rw [q] at z
          simp only at z
          by_cases hc : calO O1 xs a = none
          · rw [if_pos hc] at z; exact .inl (.inr ⟨z, hc⟩)
          · rw [if_neg hc] at z; exact absurd rfl z
    have ex : Ext c (fun l _ => ∃ i, l.1 = .s i ∧ kOf xs i 0 ≠ none) O1 (backO O1 O' xs τ.length) H H' := by
      have key : ∀ a o, H a = some o → ¬ Mut (some o) → H' a = some o := fun a o ho nm => by
          refine K'.fr a o ho (cal0 a o ho ?_)
          cases q : O1 a with
          | none => rfl
          | some l => have := (S1.ow a l q).2.2; rw [ho] at this; exact absurd this nm
      refine ⟨fun a o u h => key a _ h (fun z => z), fun a ys h => ?_, fun a ys h n => ?_, fun a l o h n h2 => ?_⟩
      · have key := key a
        rcases h with (h | ⟨u, h⟩) | h
        · exact .inl (.inl (key _ h (fun z => z)))
        · exact .inl (.inr ⟨u, key _ h (fun z => z)⟩)
        · exact .inr h
      · have hz : O1 a = none := by
          cases q : O1 a with
          | none => rfl
          | some l => exact absurd (.inr (by rw [q]; simp)) n
        have hc := cal0 a _ h hz
        refine ⟨K'.fr a _ h hc, ?_⟩
        rintro (z | z)
        · exact n (.inl z)
        · rw [bkN a _ h hc, hz] at z; exact z rfl
      · have hc : calO O1 xs a = none := by
          unfold calO
          rw [h]
          obtain ⟨k, m⟩ := l
          cases k with
          | s i =>
            cases q : kOf xs i 0 with
            | none => simp only [q, Option.map_none]
            | some k => exact absurd ⟨i, rfl, by rw [q]; simp⟩ n
          | t i => rfl
          | r => rfl
        exact ⟨by rw [bkN a o h2 hc]; exact h, K'.fr a o h2 hc⟩
    have tmA : TOk c H' (backO O1 O' xs τ.length) σ τ := by
      refine S1.tm.mono ex (fun k m a hk z => by obtain ⟨i, e, _⟩ := z; cases e) (fun w i f m x C dx vfs hx z => ?_)
      obtain ⟨j, e, z⟩ := z
      cases e
      apply z
      cases q : kOf xs i 0 with
      | none => rfl
      | some k =>
        obtain ⟨j', _, e2⟩ := kOf_get q
        exact absurd (mem_brs e2) (hfl w i f m)
    refine ⟨by rw [wb_len]; exact S1.len, fun a o h2 h3 => ?_, fun a l q => ?_, fun a z => ?_, S1.io, fun j ct q hn' => ?_, ?_, tmA⟩
    · have h4 := S1.fr a o h2 h3
      refine K'.fr a o h4 ?_
      cases q : calO O1 xs a with
      | none => rfl
      | some l =>
        obtain ⟨i, m, k, e2, _⟩ := calO_some q
        rcases (S1.ow a _ e2).2.1 with z | z
        · rw [h2] at z; cases z
        · exact absurd z h3
    · cases q' : O' a with
      | some l' =>
        obtain ⟨z1, z2, z3⟩ := K'.ow a l' q'
        refine ⟨fun z => z1 (.inl z), ?_, z3⟩
        rcases z2 with z2 | z2
        · exact S1.h0_none z2
        · cases q2 : calO O1 xs a with
          | none => exact absurd q2 z2
          | some l2 =>
            obtain ⟨i, m, k, e2, _⟩ := calO_some q2
            exact (S1.ow a _ e2).2.1
      | none =>
        unfold backO at q
        rw [q'] at q
        simp only at q
        by_cases hc : calO O1 xs a = none
        · rw [if_pos hc] at q
          obtain ⟨z1, z2, z3⟩ := S1.ow a l q
          refine ⟨z1, z2, ?_⟩
          cases hh : H a with
          | none => rw [hh] at z3; exact z3.elim
          | some o => rw [K'.fr a o hh hc]; rw [hh] at z3; exact z3
        · rw [if_neg hc] at q; cases q
    · cases hh : H a with
      | none => exact absurd hh (S1.zt a z)
      | some o =>
        rw [K'.fr a o hh ?_]; simp
        cases q2 : calO O1 xs a with
        | none => rfl
        | some l2 =>
          obtain ⟨i, m, k, e2, _⟩ := calO_some q2
          exact absurd z (S1.ow a _ e2).1
    · by_cases hj : j ∈ brs xs
      · have := brs_has hj
        obtain ⟨k, hk⟩ := this
        have hcs := wb_in hnd hk q hn'
        obtain ⟨u, e2, e3⟩ := A1.inr hk
        refine ⟨u, e3, ?_⟩
        have hka : k < vs.length := (List.getElem?_eq_some_iff.mp e2).1
        have := K'.args k u ct (by rw [List.getElem?_append_left hka]; exact e2) hcs
        refine COk.map (c := Cc.mk0 c.K c.cls (calZ c O1 xs)) (c' := c) (O := O') (O' := backO O1 O' xs τ.length) (ℓ := .s k) (ℓ' := .s j) rfl rfl (fun a m q => ?_) avB this
        unfold backO
        rw [q]
        simp only [hk]
      · rw [wb_out hj] at q
        obtain ⟨u, e2, e3⟩ := S1.sl j ct q hn'
        refine ⟨u, e2, e3.mono ex (fun m a z => ?_)⟩
        obtain ⟨i, e, z⟩ := z
        cases e
        apply z
        cases q2 : kOf xs j 0 with
        | none => rfl
        | some k => obtain ⟨j', _, e2⟩ := kOf_get q2; exact absurd (mem_brs e2) hj
    · refine COk.map (c := Cc.mk0 c.K c.cls (calZ c O1 xs)) (c' := c) (O := O') (O' := backO O1 O' xs τ.length) (ℓ := .r) (ℓ' := .t τ.length) rfl rfl (fun a m q => ?_) avB K'.ret
      unfold backO
      rw [q]
theorem call_ok {φ : Fn} {ms : List Bool} {dcs : List D} {dvs : List V} {rs : List R} {vs : List V} {n : Nat} {R0 : R → En → Prop} {E0 : Exn → En → Prop} {Q : VK} {E : XK} (hfl : ms.all (fun b => !b) = true ∨ NoAlf τ) (hd : ∀ H A, Rps c.K H A dcs dvs) (hn : ms.length + dcs.length = n) (hl : vs.length = rs.length)
    (S : Sim c ρ (tmps τ vs rs) σ H) (h : callK φ ms dcs rs ρ R0 E0) (hE : ∀ x ρ, ¬ E0 x ρ) (hQ : ∀ r ρ' v H', R0 r ρ' → Sim c ρ' ((v, r) :: τ) σ H' → Q v H') : spOf c.K c.cls n φ (vs ++ dvs) H Q E := by
  obtain ⟨O, S⟩ := S
  unfold callK at h
  split at h
  · rename_i xs ρ1 e1
    obtain ⟨hnd, how, hφ⟩ := h
    obtain ⟨O1, S1, A1, _⟩ := fzM_ok hl S e1
    have lx : xs.length = ms.length := fzM_len e1
    have hb : ms.all (fun b => !b) = true → brs xs = [] := fun hm => fzM_brs hm e1
    exact call_core (fun v i f m z => hfl.elim (fun h => by rw [hb h] at z; cases z) fun h => h v i f m) hd (by omega) S1 A1 hnd how hφ hE hQ
  · exact h.elim
end
end Pm

namespace Pm
open PySem PySem.Spec PyProof.Rows L2
section
variable {c : Cc} {O O' : Ow} {H H' : Hp} {ρ ρ' : En} {τ τ' : List (V × R)} {σ : St} {v : V} {ℓ ℓ' : Lab} {ct : Ct} {X : Cx} {ek : EK} {fl : Bool}
variable {a b e : Expr} {rest : List Expr} {Ta Tb Te : TEp} {TA' TB' TT' : TTp} {pos : Pos} {T U : TSp} {TA TB : TAp} {es : List Expr}

/-! ### a def that stands in the module -/
structure DefOk (P : Program) (w : World) (K : PySem.W.Frag) (cls : Str → Option Addr) (mg : Str → Option Value) (base : Heap) (x : Str) (n : Nat) (dcs : List D) (k : Nat) (φ : Fn) : Prop where
  ex : ∃ f fd ps ds dvs, mg x = some (.ref f) ∧ PySem.W.keepIn K (.ref f) = true ∧ Binds K fd ps ds ∧ Vals dvs ds ∧ (∀ H A, Rps K H A dcs dvs) ∧ FnOk P w K mg base CX0 k f fd ps (spOf K cls n φ)
def tCall (φ : Fn) (ms : List Bool) (dcs : List D) (TA : TAp) : TEp := fun ρ R E => TA ρ (fun rs ρ1 => callK φ ms dcs rs ρ1 R E) E
theorem p_call {x : Str} {n k k' : Nat} {dcs : List D} {φ : Fn} {p : Pos} (ms : List Bool) (F : DefOk X.prog X.w X.K c.cls X.mg X.base x n dcs k φ) (hr : Room k' X.A) (hk : k ≤ k') (ha : PAp c ek0 fl X (e :: es) TA) (hfl : (ms.all (fun b => !b) || fl) = true := by rfl) (hn : ms.length + dcs.length = n := by rfl) (hg : Gl X x := by rfl) (hK : X.K = c.K := by rfl)
    (hdb : (x == ("__debug__" : Str)) = false := by decide) (he : starEach (e :: es) X.env = (false, eval e X.env) :: starEach es X.env := by rfl) (hpl : (backTo pos (starEach es X.env)).any (·.1) = false := by rfl) :
    PEp c ek0 fl X (.Call (.Name x p) (e :: es) [] pos) (tCall φ ms dcs TA) := by
  obtain ⟨f, fd, ps, ds, dvs, hm, hkp, hb, hd, hdd, F⟩ := F.ex
  rw [hK] at F
  refine ⟨fun pins s σ H Q I h => ?_⟩
  obtain ⟨ρ, τ, R0, E0, S, hT, hQ, hE⟩ := h
  have F' : FnOk X.prog X.w X.K X.mg X.base CX0 k f fd ps (spOf c.K c.cls n φ) := by rw [hK]; exact F
  refine (pe_call F' (hr.mono hk) hg hm hkp hb hd pass0 ha hdb he hpl).run pins s σ H Q I ⟨ρ, τ, _, E0, S, hT, fun rs ρ1 vs H1 h1 hl S1 => ?_, hE⟩
  refine call_ok ?_ (by rw [← hK]; exact hdd) hn hl S1 h1 (fun x ρ => hE.1 x ρ) hQ
  rcases (by simpa using hfl : (∀ x ∈ ms, x = false) ∨ fl = true) with z | z
  · left; simpa using z
  · right; exact hE.2 z
theorem p_call0 {x : Str} {n k k' : Nat} {dcs : List D} {φ : Fn} {p : Pos} (F : DefOk X.prog X.w X.K c.cls X.mg X.base x n dcs k φ) (hr : Room k' X.A) (hk : k ≤ k') (hn : dcs.length = n := by rfl) (hg : Gl X x := by rfl) (hK : X.K = c.K := by rfl)
    (hdb : (x == ("__debug__" : Str)) = false := by decide) : PEp c ek0 fl X (.Call (.Name x p) [] [] pos) (tCall φ [] dcs tANil) := by
  obtain ⟨f, fd, ps, ds, dvs, hm, hkp, hb, hd, hdd, F⟩ := F.ex
  have F' : FnOk X.prog X.w X.K X.mg X.base CX0 k f fd ps (spOf c.K c.cls n φ) := by rw [← hK]; exact F
  refine ⟨fun pins s σ H Q I h => ?_⟩
  obtain ⟨ρ, τ, R0, E0, S, hT, hQ, hE⟩ := h
  refine (pe_call0 F' (hr.mono hk) hg hm hkp hb hd pass0 hdb).run pins s σ H Q I ?_
  exact call_ok (E := L2.E0) (vs := []) (rs := []) (ms := []) (dcs := dcs) (τ := τ) (.inl rfl) (by rw [← hK]; exact hdd) (by simpa using hn) rfl S (show callK φ [] dcs [] ρ R0 E0 from hT) (fun x ρ => hE.1 x ρ) hQ

/-! ### built-ins -/
abbrev CbT := List R → En → (R → En → Prop) → Prop
def CbOk (c : Cc) (r : List V → Hp → VK → Prop) (T : CbT) : Prop := ∀ (σ : St) (ρ : En) (τ : List (V × R)) (vs : List V) (rs : List R) (H : Hp) (Q : VK) (R0 : R → En → Prop), Sim c ρ (tmps τ vs rs) σ H → vs.length = rs.length → T rs ρ R0 →
  (∀ r ρ' w H', R0 r ρ' → Sim c ρ' ((w, r) :: τ) σ H' → Q w H') → r vs H Q
def tCb (T : CbT) (TA : TAp) : TEp := fun ρ R E => TA ρ (fun rs ρ1 => T rs ρ1 R) E
section
variable {x : Str} {p : Pos} {id Ty : String} {r : List V → Hp → VK → Prop} {CT : CbT}
theorem p_cb (hc : CallR X (.builtin id) r) (ok : CbOk c r CT) (hm : X.mg x = none) (ha : PAp c ek fl X (e :: es) TA) (hv : bootBuiltins x = some (.builtin id) := by decide +kernel) (hg : Gl X x := by rfl) (hn : x ≠ "__name__" := by decide) (hdb : (x == ("__debug__" : Str)) = false := by decide)
    (he : starEach (e :: es) X.env = (false, eval e X.env) :: starEach es X.env := by rfl) (hpl : (backTo pos (starEach es X.env)).any (·.1) = false := by rfl) : PEp c ek fl X (.Call (.Name x p) (e :: es) [] pos) (tCb CT TA) := by
  refine ⟨fun pins s σ H Q I h => ?_⟩
  obtain ⟨ρ, τ, R0, E0, S, hT, hQ, hE⟩ := h
  exact (pe_callB hc hg hm hv ha hn hdb he hpl).run pins s σ H Q I ⟨ρ, τ, _, E0, S, hT, fun rs ρ1 vs H1 h1 hl S1 => ok σ ρ1 τ vs rs H1 Q R0 S1 hl h1 hQ, hE⟩
theorem p_cty (hc : CallR X (.type Ty) r) (ok : CbOk c r CT) (hm : X.mg x = none) (ha : PAp c ek fl X (e :: es) TA) (hv : bootBuiltins x = some (.type Ty) := by decide +kernel) (hg : Gl X x := by rfl) (hn : x ≠ "__name__" := by decide) (hdb : (x == ("__debug__" : Str)) = false := by decide)
    (he : starEach (e :: es) X.env = (false, eval e X.env) :: starEach es X.env := by rfl) (hpl : (backTo pos (starEach es X.env)).any (·.1) = false := by rfl) : PEp c ek fl X (.Call (.Name x p) (e :: es) [] pos) (tCb CT TA) := by
  refine ⟨fun pins s σ H Q I h => ?_⟩
  obtain ⟨ρ, τ, R0, E0, S, hT, hQ, hE⟩ := h
  exact (pe_callTy hc hg hm hv ha hn hdb he hpl).run pins s σ H Q I ⟨ρ, τ, _, E0, S, hT, fun rs ρ1 vs H1 h1 hl S1 => ok σ ρ1 τ vs rs H1 Q R0 S1 hl h1 hQ, hE⟩
/-- a module's name for a built-in function (math.gcd) -/
theorem p_cbf (hc : CallR X (.builtin id) r) (ok : CbOk c r CT) (hm : X.mg x = some (.builtin id)) (ha : PAp c ek fl X (e :: es) TA) (hg : Gl X x := by rfl) (hdb : (x == ("__debug__" : Str)) = false := by decide)
    (he : starEach (e :: es) X.env = (false, eval e X.env) :: starEach es X.env := by rfl) (hpl : (backTo pos (starEach es X.env)).any (·.1) = false := by rfl) : PEp c ek fl X (.Call (.Name x p) (e :: es) [] pos) (tCb CT TA) := by
  refine ⟨fun pins s σ H Q I h => ?_⟩
  obtain ⟨ρ, τ, R0, E0, S, hT, hQ, hE⟩ := h
  exact (pe_callBfun hc hg hm ha hdb he hpl).run pins s σ H Q I ⟨ρ, τ, _, E0, S, hT, fun rs ρ1 vs H1 h1 hl S1 => ok σ ρ1 τ vs rs H1 Q R0 S1 hl h1 hQ, hE⟩
end
/-- one or two arguments' data -/
def cD1 (f : D → (D → Prop) → Prop) : CbT := fun rs ρ R => match rs with
  | [r] => wD (vw ρ r) fun d => f d fun d' => R (.va (Fz d')) ρ
  | _ => False
def cD2 (f : D → D → (D → Prop) → Prop) : CbT := fun rs ρ R => match rs with
  | [r, s] => wD (vw ρ r) fun d => wD (vw ρ s) fun d2 => f d d2 fun d' => R (.va (Fz d')) ρ
  | _ => False
/-- where the answer is a plain value -/
def Pl (d : D) (v : V) : Prop := ∀ K H A, Rp K H A d v
theorem Pl.int (i : Int) : Pl (.int i) (.int i) := fun K H A => Rp.ofInt i
theorem Pl.bl (i : Bool) : Pl (.bl i) (.bl i) := fun K H A => Rp.ofBl i
theorem Pl.str (i : Str) : Pl (.str i) (.str i) := fun K H A => Rp.ofStr i
theorem cD1_ok {f : D → (D → Prop) → Prop} {r : List V → Hp → VK → Prop} (h : ∀ (A : Av) (H : Hp) (v : V) (d : D) (Q : VK) (R0 : D → Prop), RpT c.K H A d v → f d R0 → (∀ d' w, R0 d' → Pl d' w → Q w H) → r [v] H Q) : CbOk c r (cD1 f) := by
  intro σ ρ τ vs rs H Q R0 S hl hT hQ
  unfold cD1 at hT
  split at hT
  · rename_i r'
    obtain ⟨d, e1, h1⟩ := hT.of
    match vs, hl with
    | [v], _ =>
      obtain ⟨O, S⟩ := S
      exact h (c.av O) H v d Q _ (S.vw e1) h1 fun d' w h2 pl => hQ _ _ _ _ h2 (Sim.pushFz ⟨O, S.pop⟩ fun A => pl _ _ _)
  · exact hT.elim
theorem cD2_ok {f : D → D → (D → Prop) → Prop} {r : List V → Hp → VK → Prop} (h : ∀ (A : Av) (H : Hp) (v w : V) (d d2 : D) (Q : VK) (R0 : D → Prop), RpT c.K H A d v → RpT c.K H A d2 w → f d d2 R0 → (∀ d' w, R0 d' → Pl d' w → Q w H) → r [v, w] H Q) : CbOk c r (cD2 f) := by
  intro σ ρ τ vs rs H Q R0 S hl hT hQ
  unfold cD2 at hT
  split at hT
  · rename_i r' s'
    obtain ⟨d, e1, h1⟩ := hT.of
    obtain ⟨d2, e2, h1⟩ := h1.of
    match vs, hl with
    | [v, w], _ =>
      obtain ⟨O, S⟩ := S
      obtain ⟨q1, q2⟩ := S.vw2 e1 e2
      exact h (c.av O) H v w d d2 Q _ q1 q2 h1 fun d' w h2 pl => hQ _ _ _ _ h2 (Sim.pushFz ⟨O, S.pop.pop⟩ fun A => pl _ _ _)
  · exact hT.elim
def fLen (d : D) (R : D → Prop) : Prop := match d with
  | .tup l => R (.int l.length)
  | .lst l => R (.int l.length)
  | .scr l => R (.int l.length)
  | .str x => x.length ≤ sizeLine ∧ R (.int x.length)
  | _ => False
theorem len_ok (hK : X.K = c.K) : CbOk c (fun xs H Q => ∃ x n, xs = [x] ∧ LenV X.K x H n ∧ Q (.int n) H) (cD1 fLen) := cD1_ok fun A H v d Q R0 hv hf hQ => by
  rw [hK]
  unfold fLen at hf
  split at hf
  · obtain ⟨a, vs, rfl, q, r⟩ := hv.tup
    refine ⟨_, _, rfl, .inr ⟨vs, q, rfl⟩, ?_⟩
    rw [r.length]; exact hQ _ _ hf (Pl.int _)
  · obtain ⟨a, vs, rfl, q, r⟩ := hv.lst
    refine ⟨_, _, rfl, .inl ⟨vs, SqL.of q, rfl⟩, ?_⟩
    rw [r.length]; exact hQ _ _ hf (Pl.int _)
  · obtain ⟨a, rfl, q⟩ := hv.scr
    refine ⟨_, _, rfl, .inl ⟨_, scr_sq q, rfl⟩, ?_⟩
    rw [List.length_map]; exact hQ _ _ hf (Pl.int _)
  · refine ⟨_, _, rfl, ?_, hQ _ _ hf.2 (Pl.int _)⟩
    rw [hv.str]; exact ⟨hf.1, rfl⟩
  · exact hf.elim
theorem p_len {p : Pos} (hm : X.mg "len" = none) (ha : PAp c ek fl X [e] TA) (hK : X.K = c.K := by rfl) (hg : Gl X "len" := by rfl) (he : starEach [e] X.env = (false, eval e X.env) :: starEach [] X.env := by rfl) (hpl : (backTo pos (starEach [] X.env)).any (·.1) = false := by rfl) :
    PEp c ek fl X (.Call (.Name "len" p) [e] [] pos) (tCb (cD1 fLen) TA) := p_cb call_len (len_ok hK) hm ha boot_len hg (by decide) (by decide) he hpl
def fInt (d : D) (R : D → Prop) : Prop := match d with
  | .int i => R (.int i)
  | .bl b => R (.int (if b then 1 else 0))
  | _ => False
theorem int_ok : CbOk c (fun xs H Q => (∃ i, xs = [.int i] ∧ Q (.int i) H) ∨ ∃ k, xs = [.bl k] ∧ Q (.int (if k then 1 else 0)) H) (cD1 fInt) := cD1_ok fun A H v d Q R0 hv hf hQ => by
  unfold fInt at hf
  split at hf
  · exact .inl ⟨_, by rw [hv.int], hQ _ _ hf (Pl.int _)⟩
  · exact .inr ⟨_, by rw [hv.bl], hQ _ _ hf (Pl.int _)⟩
  · exact hf.elim
def fAbs (d : D) (R : D → Prop) : Prop := match d with
  | .int i => R (.int (if i < 0 then -i else i))
  | _ => False
theorem abs_ok : CbOk c (fun xs H Q => ∃ i, xs = [.int i] ∧ Q (.int (if i < 0 then -i else i)) H) (cD1 fAbs) := cD1_ok fun A H v d Q R0 hv hf hQ => by
  unfold fAbs at hf
  split at hf
  · exact ⟨_, by rw [hv.int], hQ _ _ hf (Pl.int _)⟩
  · exact hf.elim
def fGcd (d d2 : D) (R : D → Prop) : Prop := match d, d2 with
  | .int i, .int j => R (.int ((Nat.gcd i.natAbs j.natAbs : Nat) : Int))
  | _, _ => False
theorem gcd_ok : CbOk c rGcd (cD2 fGcd) := cD2_ok fun A H v w d d2 Q R0 hv hw hf hQ => by
  unfold fGcd at hf
  split at hf
  · exact ⟨_, _, by rw [hv.int, hw.int], hQ _ _ hf (Pl.int _)⟩
  · exact hf.elim
def fMax (d d2 : D) (R : D → Prop) : Prop := match d, d2 with
  | .int i, .int j => R (.int (if j > i then j else i))
  | _, _ => False
def fMin (d d2 : D) (R : D → Prop) : Prop := match d, d2 with
  | .int i, .int j => R (.int (if j < i then j else i))
  | _, _ => False
theorem max_ok : CbOk c (fun xs H Q => ∃ i j, xs = [.int i, .int j] ∧ Q (.int (if j > i then j else i)) H) (cD2 fMax) := cD2_ok fun A H v w d d2 Q R0 hv hw hf hQ => by
  unfold fMax at hf
  split at hf
  · exact ⟨_, _, by rw [hv.int, hw.int], hQ _ _ hf (Pl.int _)⟩
  · exact hf.elim
theorem min_ok : CbOk c (fun xs H Q => ∃ i j, xs = [.int i, .int j] ∧ Q (.int (if j < i then j else i)) H) (cD2 fMin) := cD2_ok fun A H v w d d2 Q R0 hv hw hf hQ => by
  unfold fMin at hf
  split at hf
  · exact ⟨_, _, by rw [hv.int, hw.int], hQ _ _ hf (Pl.int _)⟩
  · exact hf.elim
/-- list(x), tuple(x) -/
def cList : CbT := fun rs ρ R => match rs with
  | [r] => wD (vw ρ r) fun d => match d with
    | .tup l => R (.va (Wl l)) ρ
    | .lst l => R (.va (Wl l)) ρ
    | .scr l => R (.va (Wl (l.map .int))) ρ
    | _ => False
  | _ => False
theorem rps_ints {K : PySem.W.Frag} {A : Av} : ∀ ns : List Int, Rps K H A (ns.map .int) (ns.map V.int)
  | [] => Rps.nil
  | n :: ns => Rps.cons (Rp.ofInt n) (rps_ints ns)
theorem list_ok (hK : X.K = c.K) : CbOk c (fun xs H Q => ∃ p ys, xs = [.ref p] ∧ (SqL X.K H p ys ∨ SqT X.K H p ys) ∧ ∀ l, H l = none → Q (.ref l) (upd H l (.lst ys))) cList := by
  intro σ ρ τ vs rs H Q R0 S hl hT hQ
  rw [hK]
  unfold cList at hT
  split at hT
  · rename_i r'
    obtain ⟨d, e1, h1⟩ := hT.of
    match vs, hl with
    | [v], _ =>
      obtain ⟨O, S⟩ := S
      have hv := S.vw e1
      split at h1
      · obtain ⟨a, vs, rfl, q, r⟩ := hv.tup
        exact ⟨a, vs, rfl, .inr q, fun p hp => hQ _ _ _ _ h1 (S.pop.newLst hp r)⟩
      · obtain ⟨a, vs, rfl, q, r⟩ := hv.lst
        exact ⟨a, vs, rfl, .inl (SqL.of q), fun p hp => hQ _ _ _ _ h1 (S.pop.newLst hp r)⟩
      · obtain ⟨a, rfl, q⟩ := hv.scr
        exact ⟨a, _, rfl, .inl (scr_sq q), fun p hp => hQ _ _ _ _ h1 (S.pop.newLst hp (rps_ints _))⟩
      · exact h1.elim
  · exact hT.elim
def cTuple : CbT := fun rs ρ R => match rs with
  | [r] => wD (vw ρ r) fun d => match d with
    | .tup l => R (.va (Fz (.tup l))) ρ
    | .lst l => R (.va (Fz (.tup l))) ρ
    | _ => False
  | _ => False
theorem tuple_ok (hK : X.K = c.K) : CbOk c (fun xs H Q => ∃ p ys, xs = [.ref p] ∧ ((SqL X.K H p ys ∧ ∀ l, H l = none → Q (.ref l) (upd H l (.tup ys))) ∨ (SqT X.K H p ys ∧ Q (.ref p) H))) cTuple := by
  intro σ ρ τ vs rs H Q R0 S hl hT hQ
  rw [hK]
  unfold cTuple at hT
  split at hT
  · rename_i r'
    obtain ⟨d, e1, h1⟩ := hT.of
    match vs, hl with
    | [v], _ =>
      obtain ⟨O, S⟩ := S
      have hv := S.vw e1
      split at h1
      · obtain ⟨a, vs, rfl, q, r⟩ := hv.tup
        refine ⟨a, vs, rfl, .inr ⟨q, hQ _ _ _ _ h1 ⟨O, S.pop.push ?_⟩⟩⟩
        show Rp _ _ _ _ _
        unfold Rp; exact ⟨a, vs, rfl, q, r⟩
      · obtain ⟨a, vs, rfl, q, r⟩ := hv.lst
        exact ⟨a, vs, rfl, .inl ⟨SqL.of q, fun p hp => hQ _ _ _ _ h1 (S.pop.newTup hp r)⟩⟩
      · exact h1.elim
  · exact hT.elim
/-- isinstance(x, T), T a built-in class by its name -/
def clsD (n : String) : D → Option Bool
  | .non => kitB "NoneType" n
  | .bl _ => kitB "bool" n
  | .int _ => kitB "int" n
  | .str _ => kitB "str" n
  | .tup _ => kitB "tuple" n
  | .lst _ => kitB "list" n
  | .scr _ => none
theorem ty_of {K : PySem.W.Frag} {A : Av} {d : D} (h : RpT K H A d v) {n : String} {b : Bool} (q : clsD n d = some b) : ∃ t, TyX K H v t ∧ PySem.W.kitOne K t (.type n) = some b := by
  cases d with
  | non => rw [h.non]; exact ⟨_, .base .non, kit_ty q⟩
  | bl x => rw [h.bl]; exact ⟨_, .base (.bl x), kit_ty q⟩
  | int x => rw [h.int]; exact ⟨_, .base (.int x), kit_ty q⟩
  | str x => rw [h.str]; exact ⟨_, .base (.str x), kit_ty q⟩
  | tup l =>
    obtain ⟨a, vs, rfl, z, r⟩ := h.tup
    rcases z with (z | ⟨o, z⟩) | ⟨o, its, m, z, z2, _⟩
    · exact ⟨_, .base (.tup z), kit_ty q⟩
    · exact ⟨_, .fTuple z, kit_ty q⟩
    · exact ⟨_, .kTuple z z2, kit_ty q⟩
  | lst l => obtain ⟨a, vs, rfl, z, r⟩ := h.lst; exact ⟨_, .base (.lst z), kit_ty q⟩
  | scr l => cases q
def tIsi (n : String) (Te : TEp) : TEp := fun ρ R E => Te ρ (fun r ρ1 => nA r <| wD (vw ρ1 r) fun d => match clsD n d with | some b => R (.va (Fz (.bl b))) ρ1 | none => False) E
theorem p_isi {n : String} {x : Str} {p q : Pos} (h1 : X.mg "isinstance" = none) (h2 : X.mg x = none) (ha : PEp c ek fl X e Te) (hv : bootBuiltins x = some (.type n) := by decide +kernel) (hg : Gl X "isinstance" := by rfl) (hgx : Gl X x := by rfl) (hK : X.K = c.K := by rfl) (hn : x ≠ "__name__" := by decide) (hdx : (x == ("__debug__" : Str)) = false := by decide)
    (he : starEach [e, .Name x q] X.env = (false, eval e X.env) :: starEach [.Name x q] X.env := by rfl) (he2 : starEach [.Name x q] X.env = (false, eval (.Name x q) X.env) :: starEach [] X.env := by rfl) (hpl : (backTo pos (starEach [.Name x q] X.env)).any (·.1) = false := by rfl) :
    PEp c ek fl X (.Call (.Name "isinstance" p) [e, .Name x q] [] pos) (tIsi n Te) := by
  refine ⟨fun pins s σ H Q I h => ?_⟩
  obtain ⟨ρ, τ, R0, E0, S, hT, hQ, hE⟩ := h
  refine (pe_callB call_isi hg h1 (by decide +kernel) (pa_cons ha (pa_cons (pe_bltn hgx h2 hv (v := .ty n) rfl hn hdx) pa_nil he2) he) (by decide) (by decide) he hpl).run pins s σ H Q I ⟨ρ, τ, _, E0, S, hT, fun r ρ1 v H1 h1 S1 => ?_, hE⟩
  obtain ⟨h1, _⟩ := h1.of (v := v) (τ := τ)
  obtain ⟨d, e1, h2⟩ := h1.of
  obtain ⟨O, S1⟩ := S1
  split at h2
  · rename_i b eb
    obtain ⟨t, ht, hk⟩ := ty_of (S1.vw e1) eb
    exact ⟨v, _, t, _, b, rfl, .ty n, by rw [hK]; exact ht, by rw [hK]; exact hk, hQ _ _ _ _ h2 (Sim.pushFz ⟨O, S1.pop⟩ fun A => Rp.ofBl b)⟩
  · exact h2.elim

/-! ### range -/
def rngD (lo : Int) (n : Nat) : List D := (List.range n).map fun k => .int (lo + (k : Nat))
def iRng1 (TA : TAp) : TIp' := fun ρ R E => TA ρ (fun rs ρ1 => match rs with
  | [r] => wD (vw ρ1 r) fun d => match d with
    | .int j => (-(2 ^ 62) ≤ j ∧ j < 2 ^ 62) ∧ R (rngD 0 j.toNat) ρ1
    | _ => False
  | _ => False) E
def iRng2 (TA : TAp) : TIp' := fun ρ R E => TA ρ (fun rs ρ1 => match rs with
  | [r, s] => wD (vw ρ1 r) fun d => wD (vw ρ1 s) fun d2 => match d, d2 with
    | .int i, .int j => (-(2 ^ 62) ≤ i ∧ i < 2 ^ 62 ∧ -(2 ^ 62) ≤ j ∧ j < 2 ^ 62) ∧ R (rngD i (j - i).toNat) ρ1
    | _, _ => False
  | _ => False) E
theorem rng_it (lo : Int) (n : Nat) : ItOk c (Itr lo n) (rngD lo n) [] := by
  intro σ H ρ τ0 τ i S
  obtain ⟨O, S⟩ := S
  unfold rngD
  refine ⟨fun d hd => ?_, fun hl => show n ≤ i by simpa using hl⟩
  have hi : i < n := by
    by_cases h : i < n
    · exact h
    · rw [List.getElem?_eq_none (by simp; omega)] at hd; cases hd
  rw [List.getElem?_map, List.getElem?_eq_getElem (by simpa using hi)] at hd
  simp at hd
  subst hd
  refine ⟨hi, fun x H' y => ?_⟩
  obtain ⟨e1, e2⟩ := y
  subst e1 e2
  exact ⟨O, S, Rp.ofInt _⟩
theorem i_rng1 {tg : Expr} {p : Pos} (hm : X.mg "range" = none) (ha : PAp c ek fl X [a] TA) (hg : Gl X "range" := by rfl) (hs : starEach [a] X.env = [(false, eval a X.env)] := by rfl) : PIp' c ek fl X tg (.Call (.Name "range" p) [a] [] pos) (iRng1 TA) := by
  refine ⟨fun pins s σ H Q I h => ?_⟩
  obtain ⟨ρ, τ, R0, E0, S, hT, q, q5⟩ := h
  refine (pi_range1 hg hm ha hs).run pins s σ H Q I ⟨ρ, τ, _, _, S, hT, fun rs ρ1 vs H1 h1 hl S1 => ?_, q5⟩
  split at h1
  · rename_i r'
    obtain ⟨d, e1, h1⟩ := h1.of
    match vs, hl with
    | [v], _ =>
      obtain ⟨O, S1⟩ := S1
      have hv := S1.vw e1
      split at h1
      · exact ⟨_, by rw [hv.int], h1.1.1, h1.1.2, q _ _ _ _ [] h1.2 (rng_it _ _) (fun _ _ m => by cases m) ⟨O, S1.pop⟩⟩
      · exact h1.elim
  · exact h1.elim
theorem i_rng2 {tg : Expr} {p : Pos} (hm : X.mg "range" = none) (ha : PAp c ek fl X [a, b] TA) (hg : Gl X "range" := by rfl) (hs : starEach [a, b] X.env = [(false, eval a X.env), (false, eval b X.env)] := by rfl) (hs2 : starEach [b] X.env = [(false, eval b X.env)] := by rfl) :
    PIp' c ek fl X tg (.Call (.Name "range" p) [a, b] [] pos) (iRng2 TA) := by
  refine ⟨fun pins s σ H Q I h => ?_⟩
  obtain ⟨ρ, τ, R0, E0, S, hT, q, q5⟩ := h
  refine (pi_range2 hg hm ha hs hs2).run pins s σ H Q I ⟨ρ, τ, _, _, S, hT, fun rs ρ1 vs H1 h1 hl S1 => ?_, q5⟩
  split at h1
  · rename_i r' s'
    obtain ⟨d, e1, h1⟩ := h1.of
    obtain ⟨d2, e2, h1⟩ := h1.of
    match vs, hl with
    | [v, w], _ =>
      obtain ⟨O, S1⟩ := S1
      obtain ⟨hv, hw⟩ := S1.vw2 e1 e2
      split at h1
      · exact ⟨_, _, by rw [hv.int, hw.int], h1.1, q _ _ _ _ [] h1.2 (rng_it _ _) (fun _ _ m => by cases m) ⟨O, S1.pop.pop⟩⟩
      · exact h1.elim
  · exact h1.elim

/-! ### a[i] = e, of an owned list in a slot -/
def sSub (j : Nat) (Ti Te : TEp) : TSp := fun ρ E => Te ρ (fun r ρ1 => match fzC ρ1 r with
  | some (d, ρ2) => match ρ2[j]? with
    | some (.at (.ow _)) => Ti ρ2 (fun ri ρ3 => match vw ρ3 ri, ρ3[j]? with
      | some (.int i), some (.at (.ow l)) => match ixN l.length i with
        | some n => E.nx (ρ3.set j (Wl (l.set n d)))
        | none => False
      | _, _ => False) E.ex
    | _ => False
  | none => False) E.ex
theorem s_sub (j : Nat) {x : Str} {i : Expr} {Ti : TEp} {p1 p2 : Pos} (hi : PEp c ek true X i Ti) (he : PEp c ek true X e Te) (hN : X.N[j]? = some x := by rfl) (hv : Vis X.env.scope x := by first | exact Or.inl rfl | exact Or.inr (Or.inl rfl) | exact Or.inr (Or.inr rfl)) (hd : (x == ("__debug__" : Str)) = false := by decide) (hcd : (x == ("__classdict__" : Str)) = false := by decide)
    (ha : ∀ v, assign (.Subscript (.Name x p1) i p2) X.env v = (do
      let ov ← holding [v] (eval (.Name x p1) X.env)
      let iv ← holding [v, ov] (eval i X.env)
      standAt p2
      holding [v, ov, iv] (setItem ov iv v)
      release [v, ov, iv] []) := by intro _; rfl)
    (hs : swapsWithSole [.Subscript (.Name x p1) i p2] e pos.line X.env = pure false := by rfl) (hw : swappedStores [.Subscript (.Name x p1) i p2] e X.env = pure none := by rfl)
    (h1 : (assignEach [.Subscript (.Name x p1) i p2] X.env).map (·.2) = [assign (.Subscript (.Name x p1) i p2) X.env] := by rfl) : PSp c ek X (.Assign [.Subscript (.Name x p1) i p2] e pos) (sSub j Ti Te) := by
  refine ⟨fun pins s σ H D I h => ?_⟩
  obtain ⟨ρ, τ, E, S, n, hT, q1, q2, q3, q4, q5⟩ := h
  refine (ps_asg he (pg_sub (pe_var (i := j) hN hv hd hcd) hi set_list ha) hs hw h1).run pins s σ H D I ⟨ρ, τ, _, _, S, hT, fun r ρ1 v H1 h1 S1 => ?_, q5 σ, fun _ => n.alf⟩
  obtain ⟨O, S1⟩ := S1
  split at h1
  · rename_i d ρ2 e1
    obtain ⟨O2, S2, rp, _⟩ := fzC_ok S1 e1
    -- the slot's value, whatever the index does
    split at h1
    · rename_i e0
      obtain ⟨u, hu, _⟩ := S2.sl j _ e0 (by intro z; cases z)
      refine ⟨u, hu, ρ2, (v, .va (Fz d)) :: τ, _, E.ex, ⟨O2, S2.push rp⟩, h1, fun ri ρ3 w H3 h3 S3 => ?_, q5 σ, fun _ => ?_⟩
      · obtain ⟨O3, S3⟩ := S3
        split at h3
        · rename_i i l e3 e4
          split at h3
          · rename_i k ek'
            have hw := (S3.vw e3).int
            have S4 := S3.pop
            obtain ⟨u', e5, a, vs, rfl, oa, hal, rr⟩ := S4.sl j _ e4 (by intro z; cases z)
            rw [hu] at e5; cases e5
            refine ⟨a, vs, i, k, rfl, hw, hal, by rw [rr.length]; exact ek', q1 _ _ _ h3 ?_⟩
            have ex := Ext.wr (c := c) (O := O3) (o := .lst (vs.set k v)) hal True.intro oa
            have rp3 : Rp c.K H3 (c.av O3) d v := S4.tm.1
            have S5 := S4.pop
            refine ⟨O3, by rw [List.length_set]; exact S5.len, fun a' o h4 h5 => ?_, fun a' l' q => ?_, fun a' z => ?_, S5.io, S5.slots_set ex fun _ => ⟨_, hu, a, _, rfl, oa, upd_same, ex.rps (rr.set k rp3)⟩, S5.tm.mono ex (fun k m b _ z => by cases z.1) (fun w i f m _ _ _ _ hx z => by rw [z.2, hal] at hx; cases hx)⟩
            · have := S5.fr a' o h4 h5
              rw [upd_ne]; · exact this
              intro z; subst z
              rcases (S5.ow _ _ oa).2.1 with z | z
              · rw [h4] at z; cases z
              · exact h5 z
            · obtain ⟨z1, z2, z3⟩ := S5.ow a' l' q
              refine ⟨z1, z2, ?_⟩
              by_cases hz : a' = a
              · subst hz; rw [upd_same]; trivial
              · rw [upd_ne hz]; exact z3
            · have := S5.zt a' z
              rw [upd_ne]; · exact this
              intro z'; subst z'
              exact (S5.ow _ _ oa).1 z
          · exact h3.elim
        · exact h3.elim
      · intro w i f m
        rcases List.mem_cons.mp m with z | m
        · cases z
        · exact n.alf w i f m
    · exact h1.elim
  · exact h1.elim
end
end Pm

namespace Pm
open PySem PySem.Spec PyProof.Rows L2
section
variable {c : Cc} {O O' : Ow} {H H' : Hp} {ρ ρ' : En} {τ τ' : List (V × R)} {σ σ' : St} {v : V} {ℓ ℓ' : Lab} {ct : Ct} {X : Cx} {ek : EK} {fl : Bool}
variable {a b e : Expr} {rest : List Expr} {Ta Tb Te : TEp} {TA' TB' TT' : TTp} {pos : Pos} {T U : TSp} {TA TB : TAp} {es : List Expr}

/-! ### comprehensions -/
def wipeE (ρ : En) : List Nat → En
  | [] => ρ
  | i :: l => (wipeE ρ l).set i .no
theorem wipeE_len : ∀ {l : List Nat}, (wipeE ρ l).length = ρ.length
  | [] => rfl
  | i :: l => by unfold wipeE; rw [List.length_set, wipeE_len]
theorem wipeE_in {i : Nat} : ∀ {l : List Nat}, i ∈ l → ∀ ct, (wipeE ρ l)[i]? = some ct → ct = .no
  | j :: l, h, ct, q => by
    unfold wipeE at q
    by_cases e : j = i
    · subst e
      by_cases hl : j < (wipeE ρ l).length
      · rw [List.getElem?_set_self hl] at q; cases q; rfl
      · rw [List.getElem?_eq_none (by simpa using hl)] at q; cases q
    · rw [List.getElem?_set_ne e] at q
      rcases List.mem_cons.mp h with h | h
      · exact absurd h.symm e
      · exact wipeE_in h ct q
theorem wipeE_out {i : Nat} : ∀ {l : List Nat}, i ∉ l → (wipeE ρ l)[i]? = ρ[i]?
  | [], _ => rfl
  | j :: l, h => by
    unfold wipeE
    rw [List.getElem?_set_ne (fun e => h (by rw [e]; exact List.mem_cons_self)), wipeE_out (fun z => h (List.mem_cons_of_mem _ z))]
/-- the own slots wiped on both sides; back to any slots that agree elsewhere -/
theorem Sim0.wipe {own : List Nat} (hown : ∀ i ∈ own, c.nb ≤ i) (hlk : ∀ i ∈ own, i ∉ c.lock) (S : Sim0 c H O ρ τ σ) (hl : σ'.length = σ.length) (g : ∀ i, i ∉ own → σ'[i]? = σ[i]?) : Sim0 c H O (wipeE ρ own) τ σ' := by
  refine ⟨by rw [wipeE_len, hl]; exact S.len, S.fr, S.ow, S.zt, fun p hp => ⟨(S.io p hp).1, ?_⟩, fun i ct q n => ?_, S.tm.agree hown g⟩
  · rw [g p.1 (fun z => hlk p.1 z (S.io p hp).1)]
    exact (S.io p hp).2
  · by_cases hi : i ∈ own
    · exact absurd (wipeE_in hi ct q) n
    · rw [wipeE_out hi] at q
      obtain ⟨w, e1, e2⟩ := S.sl i ct q n
      exact ⟨w, by rw [g i hi]; exact e1, e2⟩
theorem wipe_outS {i : Nat} {l : List Nat} (h : i ∉ l) : (wipe σ l)[i]? = σ[i]? := wipe_out h
theorem wipe_inS {i : Nat} : ∀ {l : List Nat}, i ∈ l → i < σ.length → (wipe σ l)[i]? = some none
  | j :: l, h, hl => by
    unfold L2.wipe
    by_cases e : j = i
    · subst e
      rw [List.getElem?_set_self (by rw [wipe_length]; exact hl)]
    · rw [List.getElem?_set_ne e]
      rcases List.mem_cons.mp h with h | h
      · exact absurd h.symm e
      · exact wipe_inS h hl
theorem wipe_agr {own l : List Nat} {σ2 : St} (h : Agr l (wipe σ own) σ2) (hs : ∀ i ∈ l, i ∈ own) : wipe σ2 own = wipe σ own := by
  have hl : σ2.length = σ.length := h.1.trans (wipe_length σ own)
  apply List.ext_getElem?
  intro i
  by_cases hi : i ∈ own
  · by_cases hlt : i < σ.length
    · rw [wipe_inS hi (by omega), wipe_inS hi hlt]
    · rw [List.getElem?_eq_none (by rw [wipe_length]; omega), List.getElem?_eq_none (by rw [wipe_length]; omega)]
  · rw [wipe_outS hi, wipe_outS hi, h.2 i (fun z => hi (hs i z)), wipe_outS hi]
def lcK (g : Tg) (tt : TTp) (te : TEp) (own : List Nat) (E : Exn → En → Prop) (R : R → En → Prop) : List D → List D → En → Prop
  | [], acc, ρ => R (.va (Wl acc)) ρ
  | d :: ds, acc, ρ => match tgK g d (wipeE ρ own) with
    | some ρ2 => tt ρ2 (fun b ρ3 => if b = true then te ρ3 (fun r ρ4 => match fzC ρ4 r with
        | some (dy, ρ5) => acc.length < sizeLine ∧ lcK g tt te own E R ds (acc ++ [dy]) (wipeE ρ5 own)
        | none => False) E else lcK g tt te own E R ds acc (wipeE ρ3 own)) E
    | none => False
def tLc' (TI : TIp') (g : Tg) (tt : TTp) (te : TEp) (own : List Nat) : TEp := fun ρ R E => TI ρ (fun ds ρ1 => lcK g tt te own E R ds [] (wipeE ρ1 own)) E
def tYes' : TTp := fun ρ R _ => R true ρ
abbrev PTsp (c : Cc) (ek : EK) (fl : Bool) (X : Cx) (ifs : List Expr) (T : TTp) : Prop := PTs X ifs (rdT c ek fl T)
theorem ts_nil : PTsp c ek fl X [] tYes' := by
  refine ⟨fun pins s σ H Q I h => ?_⟩
  obtain ⟨ρ, τ, R0, E0, S, hT, hQ, hE⟩ := h
  exact pts_nil.run pins s σ H Q I (hQ _ _ _ hT S)
theorem ts_one (h : PTp c ek fl X e TT') : PTsp c ek fl X [e] TT' := ⟨fun pins s σ H Q I hw => (pts_one h).run pins s σ H Q I hw⟩
theorem mono_rd {T : TEp} (h : PEp c ek false X e T) : PEp c ek fl X e T := ⟨fun pins s σ H Q I hw => by
  obtain ⟨ρ, τ, R0, E0, S, hT, hQ, hE⟩ := hw
  exact h.run pins s σ H Q I ⟨ρ, τ, R0, E0, S, hT, hQ, hE.1, fun z => by cases z⟩⟩
theorem wipeE_eq {l : List Nat} (h : ∀ j ∈ l, ∀ ct, ρ[j]? = some ct → ct = .no) : wipeE ρ l = ρ := by
  apply List.ext_getElem?
  intro i
  by_cases hi : i ∈ l
  · cases q : ρ[i]? with
    | none =>
      rw [List.getElem?_eq_none_iff] at q ⊢
      rw [wipeE_len]; exact q
    | some ct =>
      have e := h i hi ct q
      subst e
      have hl : i < (wipeE ρ l).length := by rw [wipeE_len]; exact (List.getElem?_eq_some_iff.mp q).1
      rw [List.getElem?_eq_getElem hl]
      rw [wipeE_in hi _ (List.getElem?_eq_getElem hl)]
  · exact wipeE_out hi
/-- an owned object is changed: what stays of the state -/
theorem Sim0.wr {p : Addr} {o u : HO} {m : Option Str} (S : Sim0 c H O ρ τ σ) (hp : H p = some u) (ho : O p = some (ℓ, m)) (hm : Mut (some o)) :
    (∀ a o', c.H0 a = some o' → ¬ c.I a → upd H p o a = some o') ∧ (∀ a ℓ, O a = some ℓ → ¬ c.Z a ∧ (c.H0 a = none ∨ c.I a) ∧ Mut (upd H p o a)) ∧ ∀ a, c.Z a → upd H p o a ≠ none := by
  refine ⟨fun a o' h h2 => ?_, fun a ℓ' q => ?_, fun a z => ?_⟩
  · have := S.fr a o' h h2
    rw [upd_ne]; · exact this
    intro z; subst z
    rcases (S.ow _ _ ho).2.1 with z | z
    · rw [h] at z; cases z
    · exact h2 z
  · obtain ⟨z1, z2, z3⟩ := S.ow a ℓ' q
    refine ⟨z1, z2, ?_⟩
    by_cases hz : a = p
    · subst hz; rw [upd_same]; exact hm
    · rw [upd_ne hz]; exact z3
  · have := S.zt a z
    rw [upd_ne]; · exact this
    intro z'; subst z'
    exact (S.ow _ _ ho).1 z
theorem Sim0.appTop {D' : Addr} {l : List D} {d : D} (S : Sim0 c H O ρ ((.ref D', .va (Wl l)) :: τ) σ) (r : Rp c.K H (c.av O) d v) : ∃ vs, H D' = some (.lst vs) ∧ vs.length = l.length ∧ Sim0 c (upd H D' (.lst (vs ++ [v]))) O ρ ((.ref D', .va (Wl (l ++ [d]))) :: τ) σ := by
  obtain ⟨a, vs, e, o, ha, rr⟩ := S.tm.1
  cases e
  have ex := Ext.wr (c := c) (O := O) (o := .lst (vs ++ [v])) ha True.intro o
  obtain ⟨w1, w2, w3⟩ := S.wr (o := .lst (vs ++ [v])) ha o True.intro
  have S' := S.pop
  refine ⟨vs, ha, rr.length, S.len, w1, w2, w3, S.io, fun i ct q n => ?_, ⟨D', _, rfl, o, upd_same, ex.rps (rr.app (.one r))⟩, S'.tm.mono ex (fun k m b hk z => by cases z.1; omega) (fun w i f m x C dx vfs hx z => by cases z.1)⟩
  obtain ⟨w, e1, e2⟩ := S'.sl i ct q n
  exact ⟨w, e1, e2.mono ex (fun m b z => by cases z.1)⟩
/-- the reading of a comprehension -/
theorem lc_rd {TI : TIp'} {g : Tg} {tt : TTp} {te : TEp} {own : List Nat} {Q : VK} (hown : ∀ i ∈ own, c.nb ≤ i) (hlk : ∀ i ∈ own, i ∉ c.lock) (hg : ∀ i ∈ g.sl, i ∈ own) (hek : ∀ E0 σ σ', ek E0 σ → ek E0 σ')
    (h : rd c ek fl (tLc' TI g tt te own) σ H Q) : tLc (rdI c ek fl TI) (rdG c g) (rdT c ek fl tt) (rd c ek fl te) own σ H Q := by
  obtain ⟨ρ, τ, R0, E0, S, hT, hQ, hE⟩ := h
  refine ⟨ρ, τ, _, _, S, hT, fun ds ρ1 J H1 τi h1 hJ ni S1 => ?_, hE⟩
  intro D hD
  have nalf : ∀ {ws : List (V × R)} {v : V} {ct : Ct}, (fl = true → NoAlf ws) → fl = true → NoAlf ((v, R.va ct) :: ws) := fun h z w i f m => by
    rcases List.mem_cons.mp m with e | m
    · cases e
    · exact h z w i f m
  have nalf2 : fl = true → NoAlf ((V.ref D, R.va (Wl [])) :: (τi ++ τ)) := fun z w i f m => by
    rcases List.mem_cons.mp m with e | m
    · cases e
    · rcases List.mem_append.mp m with m | m
      · obtain ⟨ct, e⟩ := ni w _ m; cases e
      · exact hE.2 z w i f m
  have nalf3 : ∀ acc, fl = true → NoAlf ((V.ref D, R.va (Wl acc)) :: (τi ++ τ)) := fun acc z w i f m => by
    rcases List.mem_cons.mp m with e | m
    · cases e
    · exact nalf2 z w i f (List.mem_cons_of_mem _ m)
  refine ⟨fun i m H => m = ds.length - i ∧ i ≤ ds.length ∧ ∃ ρ acc, Sim c ρ ((.ref D, .va (Wl acc)) :: (τi ++ τ)) (wipe σ own) H ∧ (∀ j ∈ own, ∀ ct, ρ[j]? = some ct → ct = .no) ∧ lcK g tt te own E0 R0 (ds.drop i) acc ρ,
    ⟨ds.length, by simp, Nat.zero_le _, wipeE ρ1 own, [], ?_, fun j hj ct q => wipeE_in hj ct q, h1⟩, ?_⟩
  · obtain ⟨O, S1⟩ := S1
    obtain ⟨O2, S2⟩ := S1.newLst hD Rps.nil
    exact ⟨O2, S2.wipe hown hlk (wipe_length σ own) (fun i hi => wipe_outS hi)⟩
  · rintro i m H2 ⟨rfl, hi, ρ2, acc, S2, hno, hk⟩
    obtain ⟨j1, j2⟩ := hJ (wipe σ own) H2 ρ2 [(.ref D, .va (Wl acc))] τ i S2
    by_cases hlt : i < ds.length
    · have hd : ds[i]? = some ds[i] := List.getElem?_eq_getElem hlt
      obtain ⟨jg, jy⟩ := j1 _ hd
      rw [List.drop_eq_getElem_cons hlt] at hk
      unfold lcK at hk
      refine .inr ⟨jg, fun H' => ∃ ρ acc, Sim c ρ ((.ref D, .va (Wl acc)) :: (τi ++ τ)) (wipe σ own) H' ∧ (∀ j ∈ own, ∀ ct, ρ[j]? = some ct → ct = .no) ∧ lcK g tt te own E0 R0 (ds.drop (i + 1)) acc ρ, fun H' hN => ⟨ds.length - (i + 1), by omega, rfl, hlt, hN⟩, fun x H' y => ?_⟩
      obtain ⟨O, S3, rp⟩ := jy x H' y
      split at hk
      · rename_i ρ' e1
        refine ⟨wipeE ρ2 own, _, ds[i], ρ', O, S3.wipe hown hlk rfl (fun _ _ => rfl), .inr (fun j hj => hown j (hg j hj)), rp, e1, fun σ2 agr S4 => ⟨wipe_agr agr hg, ?_⟩⟩
        have back : ∀ {ρ5 : En} {H5 : Hp} {O5 : Ow} {acc : List Pm.D}, Sim0 c H5 O5 ρ5 ((.ref D, .va (Wl acc)) :: (τi ++ τ)) σ2 → Sim0 c H5 O5 (wipeE ρ5 own) ((.ref D, .va (Wl acc)) :: (τi ++ τ)) (wipe σ own) := fun {ρ5 H5 O5 acc} S =>
          S.wipe hown hlk agr.1.symm (fun j hj => (agr.2 j (fun z => hj (hg j z))).symm)
        refine ⟨ρ', _, _, E0, ⟨O, S4⟩, hk, fun b ρ3 H3 h3 S5 => ?_, hek _ _ _ hE.1, nalf3 acc⟩
        cases b with
        | true =>
          rw [if_pos rfl] at h3 ⊢
          refine ⟨ρ3, _, _, E0, S5, h3, fun r ρ4 y H4 h4 S6 => ?_, hek _ _ _ hE.1, nalf3 acc⟩
          obtain ⟨O6, S6⟩ := S6
          split at h4
          · rename_i dy ρ5 e5
            obtain ⟨O7, S7, r7, _⟩ := fzC_ok S6 e5
            obtain ⟨vs, hv, hl, S8⟩ := S7.appTop r7
            exact ⟨vs, hv, by rw [hl]; exact h4.1, _, _, ⟨_, back S8⟩, fun j hj ct q => wipeE_in hj ct q, h4.2⟩
          · exact h4.elim
        | false =>
          rw [if_neg Bool.false_ne_true] at h3 ⊢
          obtain ⟨O5, S5⟩ := S5
          exact ⟨_, acc, ⟨_, back S5⟩, fun j hj ct q => wipeE_in hj ct q, h3⟩
      · exact hk.elim
    · have e : i = ds.length := by omega
      subst e
      rw [List.drop_length] at hk
      unfold lcK at hk
      refine .inl ⟨j2 (Nat.le_refl _), hQ _ _ _ _ hk (Sim.mid (τi := τi) ?_)⟩
      obtain ⟨O, S2⟩ := S2
      have := S2.wipe (σ' := σ) hown hlk (wipe_length σ own).symm (fun j hj => (wipe_outS hj).symm)
      rw [wipeE_eq hno] at this
      exact ⟨O, this⟩
section
variable {elt tg iter : Expr} {ifs : List Expr} {scope : Scope} {own : List (Str × Nat)} {TI : TIp'} {g : Tg} {tt : TTp}
theorem ek0_any : ∀ (E0 : Exn → En → Prop) (σ σ' : St), ek0 E0 σ → ek0 E0 σ' := fun _ _ _ h => h
theorem p_lc (hc : X.calm = true) (hN : X.N.Nodup) (hi : PIp' c ek0 fl X tg iter TI) (ok : BlkOk X.N X.env.scope scope own) (hown : ∀ i ∈ own.map (·.2), c.nb ≤ i) (hlk : ∀ i ∈ own.map (·.2), i ∉ c.lock) (hsl : ∀ i ∈ g.sl, i ∈ own.map (·.2))
    (hg : ∀ (s : Shared) (H : Hp) (C : Addr) (cl : List (Str × Addr)) (fp : List Addr), PGp c (X.blk s H scope (compEnvC scope cl C X.env) fp) tg g) (ht : ∀ (s : Shared) (H : Hp) (C : Addr) (cl : List (Str × Addr)) (fp : List Addr), PTsp c ek0 fl (X.blk s H scope (compEnvC scope cl C X.env) fp) ifs tt)
    (he : ∀ (s : Shared) (H : Hp) (C : Addr) (cl : List (Str × Addr)) (fp : List Addr), PEp c ek0 fl (X.blk s H scope (compEnvC scope cl C X.env) fp) elt Te) (hs : ∀ x, foldedSetIterable iter X.env x = pure x := by intro _; rfl) :
    PEp c ek0 fl X (.ListComp elt [⟨tg, iter, ifs, 0⟩] scope pos) (tLc' TI g tt Te (own.map (·.2))) :=
  ⟨fun pins s σ H Q I h => (pe_lc hc hN hi ok hg ht he hs).run pins s σ H Q I (lc_rd hown hlk hsl ek0_any h)⟩
theorem s_setLc (j : Nat) {y : Str} {py spos : Pos} (hc : X.calm = true) (hN : X.N.Nodup) (hj : j ∉ c.lock) (hi : PIp' c ek0 true X tg iter TI) (ok : BlkOk X.N X.env.scope scope own) (hown : ∀ i ∈ own.map (·.2), c.nb ≤ i) (hlk : ∀ i ∈ own.map (·.2), i ∉ c.lock) (hsl : ∀ i ∈ g.sl, i ∈ own.map (·.2))
    (hg : ∀ (s : Shared) (H : Hp) (C : Addr) (cl : List (Str × Addr)) (fp : List Addr), PGp c (X.blk s H scope (compEnvC scope cl C X.env) fp) tg g) (ht : ∀ (s : Shared) (H : Hp) (C : Addr) (cl : List (Str × Addr)) (fp : List Addr), PTsp c ek0 true (X.blk s H scope (compEnvC scope cl C X.env) fp) ifs tt)
    (he : ∀ (s : Shared) (H : Hp) (C : Addr) (cl : List (Str × Addr)) (fp : List Addr), PEp c ek0 true (X.blk s H scope (compEnvC scope cl C X.env) fp) elt Te) (hy : X.N[j]? = some y := by rfl) (hyl : X.env.scope.names.lookup y = some .local := by rfl)
    (hsw : swapsWith (.ListComp elt [⟨tg, iter, ifs, 0⟩] scope pos) (some (.Name y py)) spos.line X.env = pure true := by exact sw_true rfl rfl (by decide +kernel)) (hs : ∀ x, foldedSetIterable iter X.env x = pure x := by intro _; rfl) :
    PSp c ek0 X (.Assign [.Name y py] (.ListComp elt [⟨tg, iter, ifs, 0⟩] scope pos) spos) (sSet j (tLc' TI g tt Te (own.map (·.2)))) := by
  refine ⟨fun pins s σ H D I h => ?_⟩
  obtain ⟨ρ, τ, E, S, n, hT, q1, q2, q3, q4, q5⟩ := h
  refine (ps_setLc hc hN hy hyl hsw hi ok hg ht he hs).run pins s σ H D I (lc_rd hown hlk hsl ek0_any ⟨ρ, τ, _, _, S, hT, fun r ρ' v H' h1 S1 => ?_, q5 σ, fun _ => n.alf⟩)
  obtain ⟨ct, ρ2, h2, O, S2⟩ := stC_ok S1 h1
  exact q1 _ _ _ h2 (S2.put n hj)
end

/-! ### the law -/
def fnLaw : Fn := fun cs R0 _ => ∃ ns : List Int, cs = [Fz (.scr ns)] ∧ ns.length ≤ 63 ∧ (∀ z ∈ ns, Builtin.Int.intBits z ≤ 1048576) ∧ ∀ cs', R0 (Fz (.bl true)) cs'
theorem law_sp {K : PySem.W.Frag} {cls : Str → Option Addr} {H : Hp} {a : Addr} {ns : List Int} {Q : VK} {E : XK} (h1 : ns.length ≤ 63) (h2 : ∀ z ∈ ns, Builtin.Int.intBits z ≤ 1048576) (h3 : Only H) (h4 : SqL K H a (ns.map V.int)) (hQ : ∀ H', Q (.bl true) H') : spOf K cls 1 fnLaw [.ref a] H Q E := by
  refine ⟨fun _ => False, [Fz (.scr ns)], fun _ => none, fun r _ => r = Fz (.bl true), fun _ _ => False, rfl, rfl, fun _ z => z.elim, fun _ _ z => (by cases z), fun i v ct q1 q2 => ?_, ⟨ns, rfl, h1, h2, fun _ => rfl⟩, fun r cs' v H' O' e K' => ?_, fun _ _ z => z⟩
  · cases i with
    | succ i => simp at q1
    | zero =>
      simp at q1 q2
      subst q1 q2
      show Rp K H ((Cc.mk0 K cls fun _ => False).av fun _ => none) (.scr ns) (.ref a)
      unfold Rp
      refine ⟨a, rfl, ?_⟩
      rcases h4 with (h | h) | h
      · rcases h3 a with z | ⟨o, xs, z⟩
        · rw [h] at z; cases z
        · rw [h] at z; cases z
      · exact .inl h
      · exact .inr (.inr h)
  · subst e
    have h3 : Rp K H' ((Cc.mk0 K cls fun _ => False).av O') (.bl true) v := K'.ret
    rw [h3.top.bl]
    exact hQ H'
/-- what the law's def promises -/
def spL (K : PySem.W.Frag) : Sp := fun vs H Q _ => ∃ (a : Addr) (ns : List Int), vs = [.ref a] ∧ ns.length ≤ 63 ∧ (∀ z ∈ ns, Builtin.Int.intBits z ≤ 1048576) ∧ Only H ∧ SqL K H a (ns.map V.int) ∧ ∀ H', Q (.bl true) H'
theorem spL_of {P : Program} {w : World} {K : PySem.W.Frag} {cls : Str → Option Addr} {mg : Str → Option Value} {base : Heap} {k : Nat} {f : Addr} {fd : FuncData} {x : Str} (F : FnOk P w K mg base CX0 k f fd [x] (spOf K cls 1 fnLaw)) : FnOk P w K mg base CX0 k f fd [x] (spL K) :=
  F.imp fun vs H Q E ⟨a, ns, e, h1, h2, h3, h4, h5⟩ => by subst e; exact law_sp h1 h2 h3 h4 h5
theorem walk {l : PySem.W.OpenLaw} {k : Nat} {q : Program} {loose : List Str} {XP : (Str → Option Value) → Heap → Prop} {YP : World → Heap → Prop} {d : DefRec} {K : Params → PySem.W.Frag} (hn : l.most = some 63) (hdf : d.params.defaults = []) (hr : Room k callerA)
    (hY : ∀ (w : World) (h : Heap), YP w h → (K w.params).In h)
    (F : ∀ (w : World) (mg : Str → Option Value) (fa : Addr) (h : Heap), (K w.params).In h → h.Ns mainGlobals mg → mg d.name = some (.ref fa) →
      ∃ fd : FuncData, (∀ (s : Shared) (u : Value), BindsTo s fd ⟨[u], []⟩ [("_law_script", u)]) ∧ ∀ base : Heap, (K w.params).In base → base.Ns mainGlobals mg → FnOk l.prog w (K w.params) mg base CX0 k fa fd ["_law_script"] (spL (K w.params))) :
    PySem.W.WalkO q loose XP YP l.row.toRowW d [] (fun f vs => PySem.call f vs) :=
  L2.walk_ofB (n := 63) (k := k) (x := "_law_script") (CX := fun _ => CX0) (sp := fun w => spL (K w.params)) hn (by decide) hdf hr hY F (fun _ _ a ns hl hb hO hS => ⟨a, ns, rfl, hl, hb, hO, hS, fun _ => rfl⟩) fun _ _ _ _ _ z => z
/-- a def with defaults -/
theorem fn_okD {P : Program} {w : World} {K : PySem.W.Frag} {cls : Str → Option Addr} {mg : Str → Option Value} {base : Heap} {x qual : Str} {st : Stmt} {dvs : List V} {f : Addr} {fd : FuncData} {N ps : List Str} {k m nb : Nat} {lock : List Nat} {T : TSp} {φ : Fn} (F : FunD K x qual (defArgs st) (defBody st) (defScope st) dvs [] f fd) (S : FnScope N ps (defScope st)) (hm : N.length = ps.length + m)
    (hφ : ∀ cs R0 E0, φ cs R0 E0 → fnOf m lock T cs R0 E0)
    (hbody : ∀ (c : Cc) (cdv : Value) (A : Around) (outer : List Env) (s : Shared) (H : Hp) (E : XK), c.K = K → c.cls = cls → c.lock = lock → c.nb = nb → Room k (A.deeper (envOfC qual (defScope st) s.heap.objs.size f cdv)) →
      PSsp c ek0 (cxOf CX0 P w K mg base N qual (defScope st) f cdv A outer s H E).nox (defBody st) T) : FnOk P w K mg base CX0 (k + 1) f fd ps (spOf K cls ps.length φ) :=
  F.ok S (fun vs H Q E h => let ⟨_, _, _, _, _, h1, _⟩ := h; h1) fun cdv A outer s H vs Q E hr h => let ⟨t, h1, h2⟩ := body_sp hm hφ hbody cdv A outer s H vs Q E hr h; ⟨t, h1.nox, h2⟩
theorem DefOk.mk' {P : Program} {w : World} {K : PySem.W.Frag} {cls : Str → Option Addr} {mg : Str → Option Value} {base : Heap} {x : Str} {f : Addr} {fd : FuncData} {ps : List Str} {n k : Nat} {φ : Fn} (hm : mg x = some (.ref f)) (hk : PySem.W.keepIn K (.ref f) = true) (hb : Binds K fd ps []) (F : FnOk P w K mg base CX0 k f fd ps (spOf K cls ps.length φ)) (hn : ps.length = n) : DefOk P w K cls mg base x n [] k φ :=
  ⟨f, fd, ps, [], [], hm, hk, hb, .nil, fun _ _ => Rps.nil, by rw [← hn]; exact F⟩
theorem DefOk.imp {P : Program} {w : World} {K : PySem.W.Frag} {cls : Str → Option Addr} {mg : Str → Option Value} {base : Heap} {x : Str} {n k : Nat} {dcs : List D} {φ φ' : Fn} (h : DefOk P w K cls mg base x n dcs k φ) (q : ∀ cs R0 E0, φ' cs R0 E0 → φ cs R0 E0) : DefOk P w K cls mg base x n dcs k φ' := by
  obtain ⟨f, fd, ps, ds, dvs, h1, h2, h3, h4, h5, F⟩ := h.ex
  refine ⟨f, fd, ps, ds, dvs, h1, h2, h3, h4, h5, F.imp fun vs H Q E z => ?_⟩
  obtain ⟨Z, cs, O, R0, E0, z1, z2, z3, z4, z5, z6, z7, z8⟩ := z
  exact ⟨Z, cs, O, R0, E0, z1, z2, z3, z4, z5, q _ _ _ z6, z7, z8⟩
theorem DefOk.none {P : Program} {w : World} {K : PySem.W.Frag} {cls : Str → Option Addr} {mg : Str → Option Value} {base : Heap} {x : Str} {f : Addr} {fd : FuncData} {ps : List Str} {n k : Nat} (hm : mg x = some (.ref f)) (hk : PySem.W.keepIn K (.ref f) = true) (hb : Binds K fd ps []) : DefOk P w K cls mg base x n [] k (fun _ _ _ => False) := by
  refine ⟨f, fd, ps, [], [], hm, hk, hb, .nil, fun _ _ => Rps.nil, ⟨fun vs H Q E h => ?_, fun A outer s H args us vs Q E hr h0 hb hv h => ?_⟩⟩
  · obtain ⟨Z, cs, O, R0, E0, z1, z2, z3, z4, z5, z6, z7, z8⟩ := h; exact z6.elim
  · obtain ⟨Z, cs, O, R0, E0, z1, z2, z3, z4, z5, z6, z7, z8⟩ := h; exact z6.elim
theorem clsD_int_int {i : Int} : clsD "int" (.int i) = some true := rfl
theorem clsD_int_bool {i : Int} : clsD "bool" (.int i) = some false := rfl
theorem clsD_int_str {i : Int} : clsD "str" (.int i) = some false := rfl
theorem clsD_int_tuple {i : Int} : clsD "tuple" (.int i) = some false := rfl
theorem clsD_str_str {i : Str} : clsD "str" (.str i) = some true := rfl
theorem clsD_str_tuple {i : Str} : clsD "tuple" (.str i) = some false := rfl
theorem clsD_str_int {i : Str} : clsD "int" (.str i) = some false := rfl
theorem clsD_tup_tuple {l : List D} : clsD "tuple" (.tup l) = some true := rfl
theorem clsD_tup_str {l : List D} : clsD "str" (.tup l) = some false := rfl
theorem clsD_tup_int {l : List D} : clsD "int" (.tup l) = some false := rfl
theorem clsD_non_tuple : clsD "tuple" .non = some false := rfl
theorem clsD_non_str : clsD "str" .non = some false := rfl
theorem clsD_non_int : clsD "int" .non = some false := rfl
theorem clsD_bl_bool {b : Bool} : clsD "bool" (.bl b) = some true := rfl
theorem clsD_bl_int {b : Bool} : clsD "int" (.bl b) = some true := rfl
theorem clsD_bl_tuple {b : Bool} : clsD "tuple" (.bl b) = some false := rfl
section
variable {α : Type} {x0 x1 x2 x3 x4 : α} {l : List α}
theorem atI_k {l : List α} (k : Nat) {x : α} (h : l[k]? = some x) : atI l (k : Int) = some x := atI_nat h
theorem atI_0 : atI (x0 :: l) 0 = some x0 := atI_k 0 rfl
theorem atI_1 : atI (x0 :: x1 :: l) 1 = some x1 := atI_k 1 rfl
theorem atI_2 : atI (x0 :: x1 :: x2 :: l) 2 = some x2 := atI_k 2 rfl
theorem atI_3 : atI (x0 :: x1 :: x2 :: x3 :: l) 3 = some x3 := atI_k 3 rfl
theorem atI_4 : atI (x0 :: x1 :: x2 :: x3 :: x4 :: l) 4 = some x4 := atI_k 4 rfl
theorem ixN5_0 : ixN (0 + 1 + 1 + 1 + 1 + 1) 0 = some 0 := rfl
theorem ixN5_1 : ixN (0 + 1 + 1 + 1 + 1 + 1) 1 = some 1 := rfl
theorem ixN5_2 : ixN (0 + 1 + 1 + 1 + 1 + 1) 2 = some 2 := rfl
theorem ixN5_3 : ixN (0 + 1 + 1 + 1 + 1 + 1) 3 = some 3 := rfl
theorem ixN5_4 : ixN (0 + 1 + 1 + 1 + 1 + 1) 4 = some 4 := rfl
end
end
end Pm

namespace Pm
open PySem PySem.Spec PyProof.Rows L2
/-! ## evaluation: equations that fire on known forms only -/
def Ep.sq (E : Ep) (U : TSp) : Ep := { E with nx := fun ρ' => U ρ' E }
def Ep.lp (E : Ep) (K : En → Prop) : Ep := { E with nx := K, ct := K, bk := E.nx }
def fnE (cs : List Ct) (R0 : Ct → List Ct → Prop) (E0 : Exn → List Ct → Prop) : Ep := ⟨fun ρ => R0 (Fz .non) (outs cs ρ), fun r ρ => retK cs r ρ R0, fun _ => False, fun _ => False, fun x ρ => E0 x (outs cs ρ)⟩
section
variable {E : Ep} {U T : TSp} {ρ : En} {K : En → Prop} {r : R} {x : Exn} {cs : List Ct} {R0 : Ct → List Ct → Prop} {E0 : Exn → List Ct → Prop} {i j : Nat} {d d2 : D} {ct : Ct} {l : List D} {Rr : R → En → Prop} {Ee : Exn → En → Prop}
theorem sq_nx : (E.sq U).nx ρ = U ρ E := rfl
theorem sq_rt : (E.sq U).rt = E.rt := rfl
theorem sq_bk : (E.sq U).bk = E.bk := rfl
theorem sq_ct : (E.sq U).ct = E.ct := rfl
theorem sq_ex : (E.sq U).ex = E.ex := rfl
theorem lp_nx : (E.lp K).nx = K := rfl
theorem lp_ct : (E.lp K).ct = K := rfl
theorem lp_bk : (E.lp K).bk = E.nx := rfl
theorem lp_rt : (E.lp K).rt = E.rt := rfl
theorem lp_ex : (E.lp K).ex = E.ex := rfl
theorem fn_nx : (fnE cs R0 E0).nx ρ = R0 (Fz .non) (outs cs ρ) := rfl
theorem fn_rt : (fnE cs R0 E0).rt r ρ = retK cs r ρ R0 := rfl
theorem fn_ex : (fnE cs R0 E0).ex x ρ = E0 x (outs cs ρ) := rfl
theorem fnOf_eq {m : Nat} {lock : List Nat} : fnOf m lock T cs R0 E0 = ((∀ i ct, cs[i]? = some ct → isOw ct = true → i ∈ lock) ∧ T (cs ++ List.replicate m .no) (fnE cs R0 E0)) := rfl
-- options
def oD {β : Type} (o : Option β) (k : β → Prop) : Prop := match o with
  | some b => k b
  | none => False
theorem oD_some {β : Type} {b : β} {k : β → Prop} : oD (some b) k = k b := rfl
theorem oD_none {β : Type} {k : β → Prop} : oD (none : Option β) k = False := rfl
theorem wD_oD {o : Option D} {k : D → Prop} : wD o k = oD o k := by cases o <;> rfl
-- names
def nmK (i : Nat) (Rr : R → En → Prop) (ρ : En) : Option Ct → Prop
  | some (.at (.fz d)) => Rr (.va (Fz d)) ρ
  | some .no => False
  | some (.at (.ow _)) => Rr (.al i) ρ
  | some (.at (.dk _)) => Rr (.al i) ρ
  | some (.ob _ _) => Rr (.al i) ρ
  | none => False
theorem e_nm : tNm i ρ Rr Ee = nmK i Rr ρ ρ[i]? := by
  unfold tNm nmK
  cases ρ[i]? with
  | none => rfl
  | some ct =>
    cases ct with
    | «at» f => cases f <;> rfl
    | _ => rfl
theorem nm_fz : nmK i Rr ρ (some (.at (.fz d))) = Rr (.va (Fz d)) ρ := rfl
theorem nm_ow : nmK i Rr ρ (some (.at (.ow l))) = Rr (.al i) ρ := rfl
theorem nm_dk {kvs : List (Key × D)} : nmK i Rr ρ (some (.at (.dk kvs))) = Rr (.al i) ρ := rfl
def nmcK (Rr : R → En → Prop) (ρ : En) : Option Ct → Prop
  | some (.at (.fz d)) => Rr (.va (Fz d)) ρ
  | _ => False
theorem e_nmC : tNmC i ρ Rr Ee = nmcK Rr ρ ρ[i]? := rfl
theorem nmc_fz : nmcK Rr ρ (some (.at (.fz d))) = Rr (.va (Fz d)) ρ := rfl
theorem e_K : tK d ρ Rr Ee = Rr (.va (Fz d)) ρ := rfl
-- views
def alV : Option Ct → Option D
  | some (.at (.fz d)) => some d
  | some (.at (.ow l)) => some (.lst l)
  | _ => none
theorem vw_fz : vw ρ (.va (.at (.fz d))) = some d := rfl
theorem vw_ow : vw ρ (.va (.at (.ow l))) = some (.lst l) := rfl
theorem vw_al : vw ρ (.al i) = alV ρ[i]? := by
  show ((match ρ[i]? with | some (.at f) => some f | _ => none : Option FC).bind fcD) = alV ρ[i]?
  cases ρ[i]? with
  | none => rfl
  | some ct =>
    cases ct with
    | «at» f => cases f <;> rfl
    | _ => rfl
theorem alV_fz : alV (some (.at (.fz d))) = some d := rfl
theorem alV_ow : alV (some (.at (.ow l))) = some (.lst l) := rfl
theorem nA_va {k : Prop} : nA (.va ct) k = k := rfl
theorem nA_al {k : Prop} : nA (.al i) k = k := rfl
-- freezing
def alZ (i : Nat) (ρ : En) : Option Ct → Option (D × En)
  | some (.at (.fz d)) => some (d, ρ)
  | some (.at (.ow l)) => some (.lst l, ρ.set i (Fz (.lst l)))
  | _ => none
theorem fzC_fz : fzC ρ (.va (.at (.fz d))) = some (d, ρ) := rfl
theorem fzC_ow : fzC ρ (.va (.at (.ow l))) = some (.lst l, ρ) := rfl
theorem fzC_al : fzC ρ (.al i) = alZ i ρ ρ[i]? := by
  show (match ρ[i]? with | some (.at (.fz d)) => some (d, ρ) | some (.at (.ow l)) => some (.lst l, ρ.set i (Fz (.lst l))) | _ => none) = alZ i ρ ρ[i]?
  cases ρ[i]? with
  | none => rfl
  | some ct =>
    cases ct with
    | «at» f => cases f <;> rfl
    | _ => rfl
theorem alZ_fz : alZ i ρ (some (.at (.fz d))) = some (d, ρ) := rfl
theorem alZ_ow : alZ i ρ (some (.at (.ow l))) = some (.lst l, ρ.set i (Fz (.lst l))) := rfl
theorem stC_va {k : Ct → En → Prop} : stC ρ (.va ct) k = k ct ρ := rfl
theorem stC_al {k : Ct → En → Prop} : stC ρ (.al i) k = oD (fzC ρ (.al i)) fun p => k (Fz p.1) p.2 := by
  show (match fzC ρ (.al i) with | some (d, ρ') => k (Fz d) ρ' | none => False) = _
  cases fzC ρ (.al i) with
  | none => rfl
  | some p => rfl
theorem fzL_nil : fzL ρ [] = some ([], ρ) := by unfold fzL; rfl
theorem fzL_cons {rs : List R} : fzL ρ (r :: rs) = (fzL ρ rs).bind fun p => (fzC p.2 r).bind fun q => some (q.1 :: p.1, q.2) := by
  show (match fzL ρ rs with | some (ds, ρ1) => _ | none => none) = _
  cases fzL ρ rs with
  | none => rfl
  | some p =>
    obtain ⟨ds, ρ1⟩ := p
    show (match fzC ρ1 r with | some (d, ρ2) => some (d :: ds, ρ2) | none => none) = (fzC ρ1 r).bind _
    cases fzC ρ1 r <;> rfl
theorem e_fzK {rs : List R} {k : List D → En → Prop} : fzK ρ rs k = oD (fzL ρ rs) fun p => k p.1 p.2 := by
  unfold fzK oD
  cases fzL ρ rs <;> rfl
-- operators
def opB' := opB
theorem b_addI {i j : Int} {Q : Ct → Prop} : opB .Add (.int i) (.int j) Q = Q (Fz (.int (i + j))) := rfl
theorem b_addS {i j : Str} {Q : Ct → Prop} : opB .Add (.str i) (.str j) Q = (i.length + j.length ≤ sizeLine ∧ Q (Fz (.str (i ++ j)))) := rfl
theorem b_addL {l m : List D} {Q : Ct → Prop} : opB .Add (.lst l) (.lst m) Q = (l.length + m.length ≤ sizeLine ∧ Q (Wl (l ++ m))) := rfl
theorem b_addT {l m : List D} {Q : Ct → Prop} : opB .Add (.tup l) (.tup m) Q = (l.length + m.length ≤ sizeLine ∧ Q (Fz (.tup (l ++ m)))) := rfl
theorem b_sub {i j : Int} {Q : Ct → Prop} : opB .Sub (.int i) (.int j) Q = Q (Fz (.int (i - j))) := rfl
theorem b_mul {i j : Int} {Q : Ct → Prop} : opB .Mult (.int i) (.int j) Q = (MulOk i j ∧ Q (Fz (.int (i * j)))) := rfl
theorem b_div {i j : Int} {Q : Ct → Prop} : opB .FloorDiv (.int i) (.int j) Q = (DivOk j ∧ Q (Fz (.int (Int.fdiv i j)))) := rfl
theorem b_mod {i j : Int} {Q : Ct → Prop} : opB .Mod (.int i) (.int j) Q = (j ≠ 0 ∧ Q (Fz (.int (Int.fmod i j)))) := rfl
theorem b_pow {i j : Int} {Q : Ct → Prop} : opB .Pow (.int i) (.int j) Q = ((0 ≤ j ∧ j ≤ 1000000 ∧ i.natAbs < 2 ^ 64) ∧ Q (Fz (.int (i ^ j.toNat)))) := rfl
theorem c_lt {i j : Int} {Q : Bool → Prop} : opC .Lt (.int i) (.int j) Q = Q (decide (i < j)) := rfl
theorem c_le {i j : Int} {Q : Bool → Prop} : opC .LtE (.int i) (.int j) Q = Q (decide (i ≤ j)) := rfl
theorem c_gt {i j : Int} {Q : Bool → Prop} : opC .Gt (.int i) (.int j) Q = Q (decide (j < i)) := rfl
theorem c_ge {i j : Int} {Q : Bool → Prop} : opC .GtE (.int i) (.int j) Q = Q (decide (j ≤ i)) := rfl
theorem c_eqS {i j : Str} {Q : Bool → Prop} : opC .Eq (.str i) (.str j) Q = Q (decide (i = j)) := rfl
theorem c_neS {i j : Str} {Q : Bool → Prop} : opC .NotEq (.str i) (.str j) Q = Q (!decide (i = j)) := rfl
theorem c_eqI {i j : Int} {Q : Bool → Prop} : opC .Eq (.int i) (.int j) Q = Q (decide (i = j)) := by
  show (shp (.int i) ∧ shp (.int j) ∧ Q (eqD (.int i) (.int j))) = _
  have e : eqD (.int i) (.int j) = decide (i = j) := by simp only [eqD, D.py, PyData.eqv]; exact Bool.beq_eq_decide_eq i j
  rw [e]
  exact propext ⟨fun h => h.2.2, fun h => ⟨rfl, rfl, h⟩⟩
theorem c_neI {i j : Int} {Q : Bool → Prop} : opC .NotEq (.int i) (.int j) Q = Q (!decide (i = j)) := by
  show (shp (.int i) ∧ shp (.int j) ∧ Q (!eqD (.int i) (.int j))) = _
  have e : eqD (.int i) (.int j) = decide (i = j) := by simp only [eqD, D.py, PyData.eqv]; exact Bool.beq_eq_decide_eq i j
  rw [e]
  exact propext ⟨fun h => h.2.2, fun h => ⟨rfl, rfl, h⟩⟩
theorem c_eqT {l m : List D} {Q : Bool → Prop} : opC .Eq (.tup l) (.tup m) Q = (shp (.tup l) ∧ shp (.tup m) ∧ Q (eqD (.tup l) (.tup m))) := rfl
theorem c_neT {l m : List D} {Q : Bool → Prop} : opC .NotEq (.tup l) (.tup m) Q = (shp (.tup l) ∧ shp (.tup m) ∧ Q (!eqD (.tup l) (.tup m))) := rfl
theorem c_eqL {l m : List D} {Q : Bool → Prop} : opC .Eq (.lst l) (.lst m) Q = (shp (.lst l) ∧ shp (.lst m) ∧ Q (eqD (.lst l) (.lst m))) := rfl
theorem c_neL {l m : List D} {Q : Bool → Prop} : opC .NotEq (.lst l) (.lst m) Q = (shp (.lst l) ∧ shp (.lst m) ∧ Q (!eqD (.lst l) (.lst m))) := rfl
theorem c_is {Q : Bool → Prop} : opC .Is d .non Q = Q (isNon d) := by cases d <;> rfl
theorem c_isn {Q : Bool → Prop} : opC .IsNot d .non Q = Q (!isNon d) := by cases d <;> rfl
theorem c_in {l : List D} {Q : Bool → Prop} : opC .In d (.lst l) Q = (shp d ∧ shp (.lst l) ∧ Q (l.any fun z => eqD z d)) := by cases d <;> rfl
theorem c_nin {l : List D} {Q : Bool → Prop} : opC .NotIn d (.lst l) Q = (shp d ∧ shp (.lst l) ∧ Q (!l.any fun z => eqD z d)) := by cases d <;> rfl
theorem isNon_non : isNon .non = true := rfl
theorem isNon_int {i : Int} : isNon (.int i) = false := rfl
theorem isNon_str {i : Str} : isNon (.str i) = false := rfl
theorem isNon_tup {l : List D} : isNon (.tup l) = false := rfl
theorem isNon_lst {l : List D} : isNon (.lst l) = false := rfl
theorem isNon_bl {b : Bool} : isNon (.bl b) = false := rfl
theorem shp_int {i : Int} : shp (.int i) := rfl
theorem shp_non : shp .non := rfl
theorem shp_bl {b : Bool} : shp (.bl b) := rfl
theorem shp_intT {i : Int} : shp (.int i) = True := eq_true rfl
theorem shp_nonT : shp .non = True := eq_true rfl
theorem shp_blT {b : Bool} : shp (.bl b) = True := eq_true rfl
theorem shp_ratT {i j : Int} : shp (.tup [.int i, .int j]) = True := eq_true rfl
theorem eqD_int {i j : Int} : eqD (.int i) (.int j) = (i == j) := by simp only [eqD, D.py, PyData.eqv]
theorem eqD_str {i j : Str} : eqD (.str i) (.str j) = (i == j) := by simp only [eqD, D.py, PyData.eqv]
theorem eqD_rat {a b i j : Int} : eqD (.tup [.int a, .int b]) (.tup [.int i, .int j]) = ((a == i) && ((b == j) && true)) := by simp only [eqD, D.py, D.pys, PyData.eqv, PyData.eqvAll]
-- combinators
variable {Ta Tb Te Ti : TEp} {TA TB : TAp} {t u : TTp} {Tr : Bool → En → Prop} {TaR : List R → En → Prop}
theorem e_bin {opT : D → D → (Ct → Prop) → Prop} : tBin opT Ta Tb ρ Rr Ee = Ta ρ (fun ra ρ1 => nA ra (Tb ρ1 (fun rb ρ2 => oD (vw ρ2 ra) fun x => oD (vw ρ2 rb) fun y => opT x y fun ct => Rr (.va ct) ρ2) Ee)) Ee := by
  unfold tBin
  simp only [wD_oD]
theorem e_cmp {op : CmpOp} : tCmp op Ta Tb ρ Rr Ee = Ta ρ (fun ra ρ1 => nA ra (Tb ρ1 (fun rb ρ2 => oD (vw ρ2 ra) fun x => oD (vw ρ2 rb) fun y => opC op x y fun b => Rr (.va (Fz (.bl b))) ρ2) Ee)) Ee := by
  unfold tCmp tBin
  simp only [wD_oD]
theorem e_cmpT {op : CmpOp} : tCmpT op Ta Tb ρ Tr Ee = Ta ρ (fun ra ρ1 => nA ra (Tb ρ1 (fun rb ρ2 => oD (vw ρ2 ra) fun x => oD (vw ρ2 rb) fun y => opC op x y fun b => Tr b ρ2) Ee)) Ee := by
  unfold tCmpT
  simp only [wD_oD]
theorem e_tru : tTru Ta ρ Tr Ee = Ta ρ (fun r ρ1 => oD (vw ρ1 r) fun d => truS d ∧ Tr (truD d) ρ1) Ee := by
  unfold tTru
  simp only [wD_oD]
theorem tru_bl {b : Bool} : truD (.bl b) = b := rfl
theorem tru_int {i : Int} : truD (.int i) = (i != 0) := rfl
theorem tru_non : truD .non = false := rfl
theorem tru_lst : truD (.lst l) = !l.isEmpty := rfl
theorem tru_tup : truD (.tup l) = !l.isEmpty := rfl
theorem tru_str {x : Str} : truD (.str x) = ((x.length : Int) != 0) := rfl
theorem trs_bl {b : Bool} : truS (.bl b) = True := rfl
theorem trs_int {i : Int} : truS (.int i) = True := rfl
theorem trs_non : truS .non = True := rfl
theorem trs_lst : truS (.lst l) = True := rfl
theorem trs_tup : truS (.tup l) = True := rfl
theorem trs_str {x : Str} : truS (.str x) = (x.length ≤ sizeLine) := rfl
theorem e_and : tAnd t u ρ Tr Ee = t ρ (fun b ρ1 => if b = true then u ρ1 Tr Ee else Tr false ρ1) Ee := rfl
theorem e_or : tOr t u ρ Tr Ee = t ρ (fun b ρ1 => if b = true then Tr true ρ1 else u ρ1 Tr Ee) Ee := rfl
theorem e_not : tNot t ρ Tr Ee = t ρ (fun b ρ1 => Tr (!b) ρ1) Ee := rfl
theorem e_yes : tYes' ρ Tr Ee = Tr true ρ := rfl
theorem isB_bl {b : Bool} {k : Bool → Prop} : isB (.va (.at (.fz (.bl b)))) k = k b := rfl
theorem e_andV : tAndV Ta Tb ρ Rr Ee = Ta ρ (fun r ρ1 => isB r fun b => if b = true then Tb ρ1 Rr Ee else Rr (.va (Fz (.bl false))) ρ1) Ee := rfl
theorem e_orV : tOrV Ta Tb ρ Rr Ee = Ta ρ (fun r ρ1 => isB r fun b => if b = true then Rr (.va (Fz (.bl true))) ρ1 else Tb ρ1 Rr Ee) Ee := rfl
theorem e_notV : tNotV Ta ρ Rr Ee = Ta ρ (fun r ρ1 => isB r fun b => Rr (.va (Fz (.bl (!b)))) ρ1) Ee := rfl
theorem e_ifE : tIfE t Ta Tb ρ Rr Ee = t ρ (fun b ρ1 => if b = true then Ta ρ1 Rr Ee else Tb ρ1 Rr Ee) Ee := rfl
def negK (ρ : En) (Rr : R → En → Prop) : D → Prop
  | .int i => Rr (.va (Fz (.int (-i)))) ρ
  | _ => False
theorem e_neg : tNeg Ta ρ Rr Ee = Ta ρ (fun r ρ1 => oD (vw ρ1 r) (negK ρ1 Rr)) Ee := by
  unfold tNeg
  congr 1
  funext r ρ1
  cases vw ρ1 r with
  | none => rfl
  | some d => cases d <;> rfl
theorem neg_int {i : Int} : negK ρ Rr (.int i) = Rr (.va (Fz (.int (-i)))) ρ := rfl
theorem e_aNil : tANil ρ TaR Ee = TaR [] ρ := rfl
theorem e_aOne : tAOne Te ρ TaR Ee = Te ρ (fun r ρ1 => TaR [r] ρ1) Ee := rfl
theorem e_aCons : tACons Te TA ρ TaR Ee = Te ρ (fun r ρ1 => nA r (TA ρ1 (fun rs ρ2 => TaR (r :: rs) ρ2) Ee)) Ee := rfl
theorem e_tup : tTup TA ρ Rr Ee = TA ρ (fun rs ρ1 => fzK ρ1 rs fun ds ρ2 => ds.length ≤ sizeLine ∧ Rr (.va (Fz (.tup ds))) ρ2) Ee := rfl
theorem e_lst : tLst TA ρ Rr Ee = TA ρ (fun rs ρ1 => fzK ρ1 rs fun ds ρ2 => ds.length ≤ sizeLine ∧ Rr (.va (Wl ds)) ρ2) Ee := rfl
theorem e_ix : tIx Ta Tb ρ Rr Ee = Ta ρ (fun ra ρ1 => nA ra (Tb ρ1 (fun rb ρ2 => oD (vw ρ2 ra) fun x => oD (vw ρ2 rb) fun y => ixD x y fun d => Rr (.va (Fz d)) ρ2) Ee)) Ee := by
  unfold tIx
  simp only [wD_oD]
theorem ix_tupD {i : Int} {Q : D → Prop} : ixD (.tup l) (.int i) Q = oD (atI l i) Q := by
  show (match atI l i with | some d => Q d | none => False) = _
  cases atI l i <;> rfl
theorem ix_lstD {i : Int} {Q : D → Prop} : ixD (.lst l) (.int i) Q = oD (atI l i) Q := by
  show (match atI l i with | some d => Q d | none => False) = _
  cases atI l i <;> rfl
theorem ix_strD {i : Int} {z : Str} {Q : D → Prop} : ixD (.str z) (.int i) Q = (z.length ≤ sizeLine ∧ oD (atI z.cps.toList i) fun k => Q (.str ⟨#[k]⟩)) := by
  show (z.length ≤ sizeLine ∧ match atI z.cps.toList i with | some k => Q (.str ⟨#[k]⟩) | none => False) = _
  cases atI z.cps.toList i <;> rfl
theorem e_isi {n : String} : tIsi n Te ρ Rr Ee = Te ρ (fun r ρ1 => nA r (oD (vw ρ1 r) fun d => oD (clsD n d) fun b => Rr (.va (Fz (.bl b))) ρ1)) Ee := by
  unfold tIsi
  congr 1
  funext r ρ1
  congr 1
  cases vw ρ1 r with
  | none => rfl
  | some d => show (match clsD n d with | some b => _ | none => False) = oD (clsD n d) _; cases clsD n d <;> rfl
theorem e_cb {C : CbT} : tCb C TA ρ Rr Ee = TA ρ (fun rs ρ1 => C rs ρ1 Rr) Ee := rfl
theorem e_cD1 {f : D → (D → Prop) → Prop} : cD1 f [r] ρ Rr = oD (vw ρ r) fun d => f d fun d' => Rr (.va (Fz d')) ρ := by
  show wD (vw ρ r) _ = _
  rw [wD_oD]
theorem e_cD2 {f : D → D → (D → Prop) → Prop} {r s : R} : cD2 f [r, s] ρ Rr = oD (vw ρ r) fun d => oD (vw ρ s) fun d2 => f d d2 fun d' => Rr (.va (Fz d')) ρ := by
  show (wD (vw ρ r) fun d => wD (vw ρ s) _) = _
  simp only [wD_oD]
def listK (ρ : En) (Rr : R → En → Prop) : D → Prop
  | .tup l => Rr (.va (Wl l)) ρ
  | .lst l => Rr (.va (Wl l)) ρ
  | .scr l => Rr (.va (Wl (l.map .int))) ρ
  | _ => False
theorem e_list : cList [r] ρ Rr = oD (vw ρ r) (listK ρ Rr) := by
  show wD (vw ρ r) _ = _
  cases vw ρ r with
  | none => rfl
  | some d => cases d <;> rfl
theorem list_tup : listK ρ Rr (.tup l) = Rr (.va (Wl l)) ρ := rfl
theorem list_lst : listK ρ Rr (.lst l) = Rr (.va (Wl l)) ρ := rfl
theorem list_scr {ns : List Int} : listK ρ Rr (.scr ns) = Rr (.va (Wl (ns.map .int))) ρ := rfl
def tupK (ρ : En) (Rr : R → En → Prop) : D → Prop
  | .tup l => Rr (.va (Fz (.tup l))) ρ
  | .lst l => Rr (.va (Fz (.tup l))) ρ
  | _ => False
theorem e_tuple : cTuple [r] ρ Rr = oD (vw ρ r) (tupK ρ Rr) := by
  show wD (vw ρ r) _ = _
  cases vw ρ r with
  | none => rfl
  | some d => cases d <;> rfl
theorem tup_tup : tupK ρ Rr (.tup l) = Rr (.va (Fz (.tup l))) ρ := rfl
theorem tup_lst : tupK ρ Rr (.lst l) = Rr (.va (Fz (.tup l))) ρ := rfl
theorem f_len_tup {Q : D → Prop} : fLen (.tup l) Q = Q (.int l.length) := rfl
theorem f_len_lst {Q : D → Prop} : fLen (.lst l) Q = Q (.int l.length) := rfl
theorem f_len_scr {ns : List Int} {Q : D → Prop} : fLen (.scr ns) Q = Q (.int ns.length) := rfl
theorem f_len_str {x : Str} {Q : D → Prop} : fLen (.str x) Q = (x.length ≤ sizeLine ∧ Q (.int x.length)) := rfl
theorem f_int {i : Int} {Q : D → Prop} : fInt (.int i) Q = Q (.int i) := rfl
theorem f_abs {i : Int} {Q : D → Prop} : fAbs (.int i) Q = Q (.int (if i < 0 then -i else i)) := rfl
theorem f_gcd {i j : Int} {Q : D → Prop} : fGcd (.int i) (.int j) Q = Q (.int ((Nat.gcd i.natAbs j.natAbs : Nat) : Int)) := rfl
theorem f_max {i j : Int} {Q : D → Prop} : fMax (.int i) (.int j) Q = Q (.int (if j > i then j else i)) := rfl
theorem f_min {i j : Int} {Q : D → Prop} : fMin (.int i) (.int j) Q = Q (.int (if j < i then j else i)) := rfl
-- calls
theorem e_call {φ : Fn} {ms : List Bool} {dcs : List D} : tCall φ ms dcs TA ρ Rr Ee = TA ρ (fun rs ρ1 => callK φ ms dcs rs ρ1 Rr Ee) Ee := rfl
theorem e_callK {φ : Fn} {ms : List Bool} {dcs : List D} {rs : List R} : callK φ ms dcs rs ρ Rr Ee = oD (fzM ms rs ρ) fun p => (brs p.1).Nodup ∧ (∀ i ∈ brs p.1, isOw (p.2.getD i .no) = true) ∧ φ (cts p.2 p.1 ++ dcs.map Fz) (fun r cs' => Rr (.va r) (wb p.1 cs' p.2)) (fun x cs' => Ee x (wb p.1 cs' p.2)) := by
  unfold callK oD
  cases fzM ms rs ρ <;> rfl
theorem fzM_nil : fzM [] [] ρ = some ([], ρ) := rfl
theorem fzM_f {ms : List Bool} {rs : List R} : fzM (false :: ms) (r :: rs) ρ = (fzM ms rs ρ).bind fun p => (fzC p.2 r).bind fun q => some (.inl q.1 :: p.1, q.2) := by
  show (match fzM ms rs ρ with | none => none | some (xs, ρ1) => _) = _
  cases fzM ms rs ρ with
  | none => rfl
  | some p =>
    obtain ⟨xs, ρ1⟩ := p
    show (match fzC ρ1 r with | some (d, ρ2) => some (.inl d :: xs, ρ2) | none => none) = (fzC ρ1 r).bind _
    cases fzC ρ1 r <;> rfl
theorem fzM_t {ms : List Bool} {rs : List R} : fzM (true :: ms) (.al i :: rs) ρ = (fzM ms rs ρ).bind fun p => some (.inr i :: p.1, p.2) := by
  show (match fzM ms rs ρ with | none => none | some (xs, ρ1) => _) = _
  cases fzM ms rs ρ <;> rfl
theorem isOw_fz : isOw (.at (.fz d)) = false := rfl
theorem isOw_ow : isOw (.at (.ow l)) = true := rfl
theorem isOw_no : isOw .no = false := rfl
theorem isOw_dk {kvs : List (Key × D)} : isOw (.at (.dk kvs)) = true := rfl
theorem brs_nil : brs [] = [] := rfl
theorem brs_l {xs : Xs} : brs (.inl d :: xs) = brs xs := rfl
theorem brs_r {xs : Xs} : brs (.inr i :: xs) = i :: brs xs := rfl
theorem cts_nil : cts ρ [] = [] := rfl
theorem cts_l {xs : Xs} : cts ρ (.inl d :: xs) = Fz d :: cts ρ xs := rfl
theorem cts_r {xs : Xs} : cts ρ (.inr i :: xs) = ρ.getD i .no :: cts ρ xs := rfl
theorem wb_nil {cs : List Ct} : wb [] cs ρ = ρ := by unfold wb; rfl
theorem wb_l {xs : Xs} {cs : List Ct} : wb (.inl d :: xs) cs ρ = wb xs cs.tail ρ := by cases cs <;> rfl
theorem wb_r {xs : Xs} {cs : List Ct} {c : Ct} : wb (.inr i :: xs) (c :: cs) ρ = wb xs cs (ρ.set i c) := rfl
theorem outs_nil {ρ : En} : outs [] ρ = [] := by unfold outs; rfl
theorem outs_cons {c x : Ct} {cs : List Ct} {ρ : En} : outs (c :: cs) (x :: ρ) = (if isOw c = true then x else .no) :: outs cs ρ := rfl
theorem ret_va : retK cs (.va ct) ρ R0 = R0 ct (outs cs ρ) := rfl
theorem ret_al : retK cs (.al i) ρ R0 = if i < cs.length then oD (fzC ρ (.al i)) (fun p => R0 (Fz p.1) (outs cs p.2)) else oD ρ[i]? (fun ct => R0 ct (outs cs ρ)) := by
  show (if i < cs.length then (match fzC ρ (.al i) with | some (d, ρ') => R0 (Fz d) (outs cs ρ') | none => False) else (match ρ[i]? with | some ct => R0 ct (outs cs ρ) | none => False)) = _
  congr 1
  · cases fzC ρ (.al i) <;> rfl
  · cases ρ[i]? <;> rfl
-- statements
theorem e_sNil : sNil ρ E = E.nx ρ := rfl
theorem e_seq : sSeq T U ρ E = T ρ (E.sq U) := rfl
theorem e_pass : sPass ρ E = E.nx ρ := rfl
theorem e_brk : sBrk ρ E = E.bk ρ := rfl
theorem e_cnt : sCnt ρ E = E.ct ρ := rfl
theorem e_never : sNever ρ E = False := rfl
theorem e_ret : sRet Te ρ E = Te ρ E.rt E.ex := rfl
theorem e_retN : sRetN ρ E = E.rt (.va (Fz .non)) ρ := rfl
theorem e_exp : sExp Te ρ E = Te ρ (fun _ ρ' => E.nx ρ') E.ex := rfl
theorem e_if : sIf t T U ρ E = t ρ (fun b ρ' => if b = true then T ρ' E else U ρ' E) E.ex := rfl
theorem e_set : sSet j Te ρ E = Te ρ (fun r ρ' => stC ρ' r fun ct ρ'' => E.nx (ρ''.set j ct)) E.ex := rfl
def augK (f : Int → Int → Int) (j : Nat) (E : Ep) (i : Int) (ρ : En) : D → Prop
  | .int k => E.nx (ρ.set j (Fz (.int (f i k))))
  | _ => False
def augN (f : Int → Int → Int) (j : Nat) (Te : TEp) (E : Ep) (ρ : En) : Option Ct → Prop
  | some (.at (.fz (.int i))) => Te ρ (fun r ρ' => oD (vw ρ' r) (augK f j E i ρ')) E.ex
  | _ => False
theorem e_aug {f : Int → Int → Int} : sAug f j Te ρ E = augN f j Te E ρ ρ[j]? := by
  have h : ∀ i, (fun r ρ' => match vw ρ' r with | some (.int k) => E.nx (ρ'.set j (Fz (.int (f i k)))) | _ => False) = fun r ρ' => oD (vw ρ' r) (augK f j E i ρ') := fun i => by
    funext r ρ'
    cases vw ρ' r with
    | none => rfl
    | some d => cases d <;> rfl
  unfold sAug augN
  cases ρ[j]? with
  | none => rfl
  | some ct =>
    cases ct with
    | «at» f' =>
      cases f' with
      | fz d =>
        cases d with
        | int i => show Te ρ _ E.ex = Te ρ _ E.ex; rw [← h i]; try rfl
        | _ => rfl
      | _ => rfl
    | _ => rfl
theorem aug_int {f : Int → Int → Int} {i : Int} : augN f j Te E ρ (some (.at (.fz (.int i)))) = Te ρ (fun r ρ' => oD (vw ρ' r) (augK f j E i ρ')) E.ex := rfl
theorem augK_int {f : Int → Int → Int} {i k : Int} : augK f j E i ρ (.int k) = E.nx (ρ.set j (Fz (.int (f i k)))) := rfl
def parK (i j : Nat) (E : Ep) (ρ : En) : List D → Prop
  | [d1, d2] => E.nx ((ρ.set i (Fz d1)).set j (Fz d2))
  | _ => False
theorem e_par : sPar i j TA ρ E = TA ρ (fun rs ρ' => fzK ρ' rs fun ds ρ'' => parK i j E ρ'' ds) E.ex := rfl
theorem par_2 : parK i j E ρ [d, d2] = E.nx ((ρ.set i (Fz d)).set j (Fz d2)) := rfl
theorem e_asg {g : Tg} : sAsg g Te ρ E = Te ρ (fun r ρ' => oD (fzC ρ' r) fun p => oD (tgK g p.1 p.2) E.nx) E.ex := by
  unfold sAsg
  congr 1
  funext r ρ'
  cases fzC ρ' r with
  | none => rfl
  | some p =>
    obtain ⟨d, ρ1⟩ := p
    show (match tgK g d ρ1 with | some ρ2 => E.nx ρ2 | none => False) = oD (tgK g d ρ1) E.nx
    cases tgK g d ρ1 <;> rfl
def subK (j : Nat) (d : D) (E : Ep) (ρ : En) : D → Option Ct → Prop
  | .int i, some (.at (.ow l)) => oD (ixN l.length i) fun n => E.nx (ρ.set j (Wl (l.set n d)))
  | _, _ => False
def subN (j : Nat) (d : D) (Ti : TEp) (E : Ep) (ρ : En) : Option Ct → Prop
  | some (.at (.ow _)) => Ti ρ (fun ri ρ3 => oD (vw ρ3 ri) fun di => subK j d E ρ3 di ρ3[j]?) E.ex
  | _ => False
theorem e_sub : sSub j Ti Te ρ E = Te ρ (fun r ρ1 => oD (fzC ρ1 r) fun p => subN j p.1 Ti E p.2 p.2[j]?) E.ex := by
  unfold sSub
  congr 1
  funext r ρ1
  cases fzC ρ1 r with
  | none => rfl
  | some p =>
    obtain ⟨d, ρ2⟩ := p
    show (match ρ2[j]? with | some (.at (.ow _)) => _ | _ => False) = subN j d Ti E ρ2 ρ2[j]?
    unfold subN
    cases ρ2[j]? with
    | none => rfl
    | some ct =>
      cases ct with
      | «at» f =>
        cases f with
        | ow l =>
          show Ti ρ2 _ E.ex = Ti ρ2 _ E.ex
          congr 1
          funext ri ρ3
          cases vw ρ3 ri with
          | none => rfl
          | some di =>
            cases di with
            | int i =>
              cases ρ3[j]? with
              | none => rfl
              | some ct =>
                cases ct with
                | «at» f =>
                  cases f with
                  | ow l' =>
                    show (match ixN l'.length i with | some n => _ | none => False) = oD (ixN l'.length i) _
                    cases ixN l'.length i <;> rfl
                  | _ => rfl
                | _ => rfl
            | _ => rfl
        | _ => rfl
      | _ => rfl
theorem subN_ow : subN j d Ti E ρ (some (.at (.ow l))) = Ti ρ (fun ri ρ3 => oD (vw ρ3 ri) fun di => subK j d E ρ3 di ρ3[j]?) E.ex := rfl
theorem subK_ow {i : Int} : subK j d E ρ (.int i) (some (.at (.ow l))) = oD (ixN l.length i) fun n => E.nx (ρ.set j (Wl (l.set n d))) := rfl
theorem e_for {TI : TIp'} {g : Tg} : sFor TI g T ρ E = TI ρ (fun ds ρ1 => forK g T ds ρ1 E) E.ex := rfl
theorem for_nil {g : Tg} : forK g T [] ρ E = E.nx ρ := rfl
theorem for_cons {g : Tg} {ds : List D} : forK g T (d :: ds) ρ E = oD (tgK g d ρ) fun ρ1 => T ρ1 (E.lp fun ρ' => forK g T ds ρ' E) := by
  show (match tgK g d ρ with | some ρ1 => _ | none => False) = oD (tgK g d ρ) _
  cases tgK g d ρ <;> rfl
theorem tg_nm : tgK (.nm i) d ρ = some (ρ.set i (Fz d)) := by unfold tgK; rfl
theorem tg_tp {ts : List Tg} : tgK (.tp ts) (.tup l) ρ = tgKs ts l ρ := by unfold tgK; rfl
theorem tgs_nil : tgKs [] [] ρ = some ρ := by unfold tgKs; rfl
theorem tgs_cons {g : Tg} {ts : List Tg} {ds : List D} : tgKs (g :: ts) (d :: ds) ρ = (tgK g d ρ).bind fun ρ' => tgKs ts ds ρ' := by conv => lhs; unfold tgKs
def rngK1 (ρ : En) (K : List D → En → Prop) : D → Prop
  | .int j => (-(2 ^ 62) ≤ j ∧ j < 2 ^ 62) ∧ K (rngD 0 j.toNat) ρ
  | _ => False
def rngK2 (ρ : En) (K : List D → En → Prop) : D → D → Prop
  | .int i, .int j => (-(2 ^ 62) ≤ i ∧ i < 2 ^ 62 ∧ -(2 ^ 62) ≤ j ∧ j < 2 ^ 62) ∧ K (rngD i (j - i).toNat) ρ
  | _, _ => False
def rngL1 (ρ : En) (K : List D → En → Prop) : List R → Prop
  | [r] => oD (vw ρ r) (rngK1 ρ K)
  | _ => False
def rngL2 (ρ : En) (K : List D → En → Prop) : List R → Prop
  | [r, s] => oD (vw ρ r) fun x => oD (vw ρ s) fun y => rngK2 ρ K x y
  | _ => False
theorem rng1_l {K : List D → En → Prop} {rs : List R} : (match rs with
    | [r] => wD (vw ρ r) fun d => match d with
      | .int j => (-(2 ^ 62) ≤ j ∧ j < 2 ^ 62) ∧ K (rngD 0 j.toNat) ρ
      | _ => False
    | _ => False) = rngL1 ρ K rs := by
  match rs with
  | [] => rfl
  | [r] =>
    show (wD (vw ρ r) _) = oD (vw ρ r) (rngK1 ρ K)
    cases vw ρ r with
    | none => rfl
    | some d => cases d <;> rfl
  | _ :: _ :: _ => rfl
theorem rng2_l {K : List D → En → Prop} {rs : List R} : (match rs with
    | [r, s] => wD (vw ρ r) fun d => wD (vw ρ s) fun d2 => match d, d2 with
      | .int i, .int j => (-(2 ^ 62) ≤ i ∧ i < 2 ^ 62 ∧ -(2 ^ 62) ≤ j ∧ j < 2 ^ 62) ∧ K (rngD i (j - i).toNat) ρ
      | _, _ => False
    | _ => False) = rngL2 ρ K rs := by
  match rs with
  | [] => rfl
  | [_] => rfl
  | [r, s] =>
    show (wD (vw ρ r) _) = oD (vw ρ r) _
    cases vw ρ r with
    | none => rfl
    | some d =>
      show (wD (vw ρ s) _) = oD (vw ρ s) _
      cases vw ρ s with
      | none => rfl
      | some d2 => cases d <;> cases d2 <;> rfl
  | _ :: _ :: _ :: _ => rfl
theorem e_rng1 {K : List D → En → Prop} : iRng1 TA ρ K Ee = TA ρ (fun rs ρ1 => rngL1 ρ1 K rs) Ee := by
  unfold iRng1
  congr 1
  funext rs ρ1
  exact rng1_l
theorem e_rng2 {K : List D → En → Prop} : iRng2 TA ρ K Ee = TA ρ (fun rs ρ1 => rngL2 ρ1 K rs) Ee := by
  unfold iRng2
  congr 1
  funext rs ρ1
  exact rng2_l
theorem rngL1_1 {K : List D → En → Prop} : rngL1 ρ K [r] = oD (vw ρ r) (rngK1 ρ K) := rfl
theorem rngL2_2 {K : List D → En → Prop} {r s : R} : rngL2 ρ K [r, s] = oD (vw ρ r) fun x => oD (vw ρ s) fun y => rngK2 ρ K x y := rfl
theorem rngK1_int {K : List D → En → Prop} {j : Int} : rngK1 ρ K (.int j) = ((-(2 ^ 62) ≤ j ∧ j < 2 ^ 62) ∧ K (rngD 0 j.toNat) ρ) := rfl
theorem rngK2_int {K : List D → En → Prop} {i j : Int} : rngK2 ρ K (.int i) (.int j) = ((-(2 ^ 62) ≤ i ∧ i < 2 ^ 62 ∧ -(2 ^ 62) ≤ j ∧ j < 2 ^ 62) ∧ K (rngD i (j - i).toNat) ρ) := rfl
def walkL (K : List D → En → Prop) (ρ : En) : D → Prop
  | .lst l => K l ρ
  | _ => False
def walkT (K : List D → En → Prop) (ρ : En) : D → Prop
  | .tup l => K l ρ
  | _ => False
theorem e_iLst {K : List D → En → Prop} : iLst Te ρ K Ee = Te ρ (fun r ρ' => oD (fzC ρ' r) fun p => walkL K p.2 p.1) Ee := by
  unfold iLst
  congr 1
  funext r ρ'
  cases fzC ρ' r with
  | none => rfl
  | some p => obtain ⟨d, ρ1⟩ := p; cases d <;> rfl
theorem e_iTup {K : List D → En → Prop} : iTup Te ρ K Ee = Te ρ (fun r ρ' => oD (fzC ρ' r) fun p => walkT K p.2 p.1) Ee := by
  unfold iTup
  congr 1
  funext r ρ'
  cases fzC ρ' r with
  | none => rfl
  | some p => obtain ⟨d, ρ1⟩ := p; cases d <;> rfl
theorem walkL_lst {K : List D → En → Prop} : walkL K ρ (.lst l) = K l ρ := rfl
theorem walkT_tup {K : List D → En → Prop} : walkT K ρ (.tup l) = K l ρ := rfl
theorem e_lc {TI : TIp'} {g : Tg} {own : List Nat} : tLc' TI g t Te own ρ Rr Ee = TI ρ (fun ds ρ1 => lcK g t Te own Ee Rr ds [] (wipeE ρ1 own)) Ee := rfl
theorem lc_nil {g : Tg} {own : List Nat} {acc : List D} : lcK g t Te own Ee Rr [] acc ρ = Rr (.va (Wl acc)) ρ := rfl
theorem lc_cons {g : Tg} {own : List Nat} {acc ds : List D} : lcK g t Te own Ee Rr (d :: ds) acc ρ = oD (tgK g d (wipeE ρ own)) fun ρ2 => t ρ2 (fun b ρ3 => if b = true then Te ρ3 (fun r ρ4 => oD (fzC ρ4 r) fun p => acc.length < sizeLine ∧ lcK g t Te own Ee Rr ds (acc ++ [p.1]) (wipeE p.2 own)) Ee else lcK g t Te own Ee Rr ds acc (wipeE ρ3 own)) Ee := by
  show (match tgK g d (wipeE ρ own) with | some ρ2 => _ | none => False) = oD (tgK g d (wipeE ρ own)) _
  cases tgK g d (wipeE ρ own) with
  | none => rfl
  | some ρ2 =>
    show t ρ2 _ Ee = t ρ2 _ Ee
    congr 1
    funext b ρ3
    by_cases hb : b = true
    · rw [if_pos hb, if_pos hb]
      congr 1
      funext r ρ4
      cases fzC ρ4 r <;> rfl
    · rw [if_neg hb, if_neg hb]
theorem wipeE_nil : wipeE ρ [] = ρ := rfl
theorem wipeE_cons {own : List Nat} : wipeE ρ (i :: own) = (wipeE ρ own).set i .no := rfl
end
end Pm

namespace Pm
open PySem PySem.Spec PyProof.Rows L2
section
variable {c : Cc} {O O' : Ow} {H H' : Hp} {ρ ρ' : En} {τ τ' : List (V × R)} {σ σ' : St} {v : V} {ℓ ℓ' : Lab} {ct : Ct} {X : Cx} {ek : EK} {fl : Bool}
variable {a b e : Expr} {rest : List Expr} {Ta Tb Tc Te : TEp} {TA' TB' TT' : TTp} {pos : Pos} {T U : TSp} {TA TB : TAp} {es : List Expr}

/-! ### what is walked: a list or a tuple -/
def iAny (Te : TEp) : TIp' := fun ρ R E => Te ρ (fun r ρ' => match fzC ρ' r with
  | some (.lst l, ρ1) => R l ρ1
  | some (.tup l, ρ1) => R l ρ1
  | _ => False) E
theorem it_lst {tg : Expr} {pins : List (Addr × Obj)} {s : Shared} {p : Addr} {xs : List V} {RR : It → Hp → Prop} (J : Inv X pins σ H s) (h : SqL X.K H p xs) (q : RR (Itl X.K p) H) : wpAny (model X.prog X.w) X.A (pyIter (.ref p)) (PIE X pins σ tg RR) X.xe s := by
  obtain ⟨us, _, pl, _⟩ := J.list h
  refine wpAny_pyIter_list pl.isList ⟨s.heap.objs.size, [s.heap.objs.size], _, _, H, rfl, ?_, turn_list p _, ⟨_, Heap.get?_push_size _ rfl, rfl, rfl⟩, ?_, q⟩
  · exact J.kept (t' := s.toks) fun _ _ h => Heap.get?_push_of_some _ h
  · intro x hx
    rw [List.mem_singleton] at hx
    subst hx
    exact J.fpOk (Nat.le_refl _) (J.hok.fresh (Nat.le_refl _))
theorem it_tup {tg : Expr} {pins : List (Addr × Obj)} {s : Shared} {p : Addr} {xs : List V} {RR : It → Hp → Prop} (J : Inv X pins σ H s) (h : SqT X.K H p xs) (q : RR (Itt X.K p) H) : wpAny (model X.prog X.w) X.A (pyIter (.ref p)) (PIE X pins σ tg RR) X.xe s := by
  obtain ⟨us, _, pl, _⟩ := J.tuple h
  refine wpAny_pyIter_tuple (show s.heap.IsTuple p us.toArray from pl) ⟨s.heap.objs.size, [s.heap.objs.size], _, _, H, rfl, ?_, turn_tuple p _, ⟨_, Heap.get?_push_size _ rfl, rfl, rfl⟩, ?_, q⟩
  · exact J.kept (t' := s.toks) fun _ _ h => Heap.get?_push_of_some _ h
  · intro x hx
    rw [List.mem_singleton] at hx
    subst hx
    exact J.fpOk (Nat.le_refl _) (J.hok.fresh (Nat.le_refl _))
theorem lst_it {p : Addr} {l : List D} (hK : X.K = c.K) : ItOk c (Itl X.K p) l [(.ref p, .va (Fz (.lst l)))] := by
  intro σ H ρ τ0 τ i S
  obtain ⟨O, S⟩ := S
  have rp : Rp c.K H (c.av O) (.lst l) (.ref p) := S.tm.app.1
  obtain ⟨a', vs, e, ha, rr⟩ := rp.top.lst
  cases e
  refine ⟨fun d hd => ?_, fun hl => ⟨vs, SqL.of ha, by rw [rr.length]; exact hl⟩⟩
  obtain ⟨w, hw, rw'⟩ := rr.get hd
  refine ⟨⟨vs, w, SqL.of ha, hw⟩, fun x H' y => ?_⟩
  obtain ⟨e1, y⟩ := y
  subst e1
  have := y vs (SqL.of ha)
  rw [hw] at this
  cases this
  exact ⟨O, S, rw'⟩
theorem tup_it {p : Addr} {l : List D} (hK : X.K = c.K) : ItOk c (Itt X.K p) l [(.ref p, .va (Fz (.tup l)))] := by
  intro σ H ρ τ0 τ i S
  obtain ⟨O, S⟩ := S
  have rp : Rp c.K H (c.av O) (.tup l) (.ref p) := S.tm.app.1
  obtain ⟨a', vs, e, ha, rr⟩ := rp.top.tup
  cases e
  rw [← hK] at ha
  refine ⟨fun d hd => ?_, fun hl => ⟨vs, ha, by rw [rr.length]; exact hl⟩⟩
  obtain ⟨w, hw, rw'⟩ := rr.get hd
  refine ⟨⟨vs, w, ha, hw⟩, fun x H' y => ?_⟩
  obtain ⟨e1, y⟩ := y
  subst e1
  have := y vs ha
  rw [hw] at this
  cases this
  exact ⟨O, S, rw'⟩
theorem i_any {tg : Expr} (he : PEp c ek fl X e Te) (hK : X.K = c.K := by rfl) : PIp' c ek fl X tg e (iAny Te) := by
  refine ⟨fun pins s σ H Q I h => ?_⟩
  obtain ⟨ρ, τ, R0, E0, S, hT, q, q5⟩ := h
  refine thn (he.run pins s σ H (fun v H1 => ∃ l ρ1, (Sim c ρ1 ((v, .va (Fz (.lst l))) :: τ) σ H1 ∨ Sim c ρ1 ((v, .va (Fz (.tup l))) :: τ) σ H1) ∧ R0 l ρ1) I ⟨ρ, τ, _, _, S, hT, fun r ρ' v H' h1 S1 => ?_, q5⟩) fun v s1 ⟨x, H1, I1, rv, l, ρ1, hS, h1⟩ => ?_
  · obtain ⟨O, S1⟩ := S1
    split at h1
    · rename_i l ρ1 e1
      obtain ⟨O2, S2, rp, _⟩ := fzC_ok S1 e1
      exact ⟨l, ρ1, .inl ⟨O2, S2.push rp⟩, h1⟩
    · rename_i l ρ1 e1
      obtain ⟨O2, S2, rp, _⟩ := fzC_ok S1 e1
      exact ⟨l, ρ1, .inr ⟨O2, S2.push rp⟩, h1⟩
    · exact h1.elim
  · rcases hS with ⟨O, S1⟩ | ⟨O, S1⟩
    · have rp : Rp c.K H1 (c.av O) (.lst l) x := S1.tm.1
      obtain ⟨p, vs, rfl, ha, rr⟩ := rp.top.lst
      cases rv
      exact it_lst I1 (SqL.of ha) (q l ρ1 _ _ [(.ref p, .va (Fz (.lst l)))] h1 (lst_it hK) (fun v r m => by rcases List.mem_cons.mp m with e | m; cases e; exact ⟨_, rfl⟩; cases m) ⟨O, S1⟩)
    · have rp : Rp c.K H1 (c.av O) (.tup l) x := S1.tm.1
      obtain ⟨p, vs, rfl, ha, rr⟩ := rp.top.tup
      cases rv
      rw [← hK] at ha
      exact it_tup I1 ha (q l ρ1 _ _ [(.ref p, .va (Fz (.tup l)))] h1 (tup_it hK) (fun v r m => by rcases List.mem_cons.mp m with e | m; cases e; exact ⟨_, rfl⟩; cases m) ⟨O, S1⟩)
def walkA (K : List D → En → Prop) (ρ : En) : D → Prop
  | .lst l => K l ρ
  | .tup l => K l ρ
  | _ => False
theorem e_iAny {K : List D → En → Prop} {Ee : Exn → En → Prop} : iAny Te ρ K Ee = Te ρ (fun r ρ' => oD (fzC ρ' r) fun p => walkA K p.2 p.1) Ee := by
  unfold iAny
  congr 1
  funext r ρ'
  cases fzC ρ' r with
  | none => rfl
  | some p => obtain ⟨d, ρ1⟩ := p; cases d <;> rfl
theorem walkA_lst {K : List D → En → Prop} {l : List D} : walkA K ρ (.lst l) = K l ρ := rfl
theorem walkA_tup {K : List D → En → Prop} {l : List D} : walkA K ρ (.tup l) = K l ρ := rfl

/-! ### methods that change an owned list of a slot -/
abbrev MuF := List D → List D → (D → List D → Prop) → Prop
def tMu (j : Nat) (f : MuF) (TA : TAp) : TEp := fun ρ R E => match ρ[j]? with
  | some (.at (.ow _)) => TA ρ (fun rs ρ1 => fzK ρ1 rs fun ds ρ2 => match ρ2[j]? with
    | some (.at (.ow l)) => f l ds fun res l' => R (.va (Fz res)) (ρ2.set j (Wl l'))
    | _ => False) E
  | _ => False
def MuOk (c : Cc) (f : MuF) (r : V → List V → Hp → VK → Prop) : Prop := ∀ (A : Av) (H : Hp) (p : Addr) (vs ws : List V) (l ds : List D) (Q : VK) (K0 : D → List D → Prop), H p = some (.lst vs) → Rps c.K H A l vs → Rps c.K H A ds ws → f l ds K0 →
  (∀ res l' w vs', K0 res l' → Rp c.K H A res w → Rps c.K H A l' vs' → Q w (upd H p (.lst vs'))) → r (.ref p) ws H Q
theorem Sim0.setOw {p : Addr} {l' : List D} {vs vs' : List V} {j : Nat} (S : Sim0 c H O ρ τ σ) (hs : σ[j]? = some (some (.ref p))) (ho : O p = some (.s j, none)) (hp : H p = some (.lst vs)) (r : Rps c.K H (c.av O) l' vs') : Sim0 c (upd H p (.lst vs')) O (ρ.set j (Wl l')) τ σ := by
  have ex := Ext.wr (c := c) (O := O) (o := .lst vs') hp True.intro ho
  obtain ⟨w1, w2, w3⟩ := S.wr (o := .lst vs') hp ho True.intro
  exact ⟨by rw [List.length_set]; exact S.len, w1, w2, w3, S.io, S.slots_set ex fun _ => ⟨_, hs, p, _, rfl, ho, upd_same, ex.rps r⟩, S.tm.mono ex (fun k m b _ z => by cases z.1) (fun w i f m x C dx vfs hx z => by rw [z.2, hp] at hx; cases hx)⟩
theorem mu_core {f : MuF} {r : V → List V → Hp → VK → Prop} {j : Nat} {rs : List R} {ws : List V} {v : V} {R0 : R → En → Prop} {Q : VK} (hm : MuOk c f r) (hv : σ[j]? = some (some v)) (hl : ws.length = rs.length) (S : Sim c ρ (tmps τ ws rs) σ H)
    (h : fzK ρ rs fun ds ρ2 => match ρ2[j]? with | some (.at (.ow l)) => f l ds fun res l' => R0 (.va (Fz res)) (ρ2.set j (Wl l')) | _ => False) (hQ : ∀ r ρ' v H', R0 r ρ' → Sim c ρ' ((v, r) :: τ) σ H' → Q v H') : tyV c.K "list" v H ∧ r v ws H Q := by
  obtain ⟨ds, ρ2, e1, h⟩ := h.of
  obtain ⟨O, S⟩ := S
  obtain ⟨O2, S2, r2, _⟩ := fzL_ok hl S e1
  split at h
  · rename_i l e2
    obtain ⟨u, e3, p, vs, rfl, ho, hp, rr⟩ := S2.sl j _ e2 (by intro z; cases z)
    rw [hv] at e3; cases e3
    refine ⟨.inl ⟨rfl, vs, SqL.of hp⟩, hm (c.av O2) H p vs ws l ds Q _ hp rr r2 h fun res l' w vs' h1 h2 h3 => ?_⟩
    have S3 := S2.setOw hv ho hp h3
    have ex := Ext.wr (c := c) (O := O2) (o := .lst vs') hp True.intro ho
    exact hQ _ _ _ _ h1 ⟨O2, S3.push (ct := Fz res) (ex.rp h2)⟩
  · exact h.elim
section
variable {x name : Str} {px apos : Pos} {id : String} {r : V → List V → Hp → VK → Prop} {f : MuF}
theorem p_mu (j : Nat) (pa : PlainAttrs "list") (slot : Slot "list" name id) (hty : typeOf (.builtin id) = pure (.type "method_descriptor")) (hm : MtR X id r) (ok : MuOk c f r) (ha : PAp c ek fl X (e :: es) TA) (hN : X.N[j]? = some x := by rfl) (hv : Vis X.env.scope x := by first | exact Or.inl rfl | exact Or.inr (Or.inl rfl) | exact Or.inr (Or.inr rfl)) (hd : (x == ("__debug__" : Str)) = false := by decide) (hcd : (x == ("__classdict__" : Str)) = false := by decide) (hK : X.K = c.K := by rfl)
    (hbase : attributeBase (.Name x px) name X.env (eval (.Name x px) X.env) = eval (.Name x px) X.env := by rfl)
    (hfew : ((backTo pos (starEach (e :: es) X.env)).all (fun x => !x.1) && (backToKw pos (keywordEach [] X.env)).all (fun x => x.1.isSome) && decide ((e :: es).length + ([] : List Keyword).length + (if ([] : List Keyword).isEmpty then 0 else 1) < 30)) = true := by rfl)
    (hline : (apos.endLine == pos.line) = true := by rfl) (hs : starEach (e :: es) X.env = (false, eval e X.env) :: starEach es X.env := by rfl) (hplain : (backTo pos (starEach es X.env)).any (·.1) = false := by rfl) :
    PEp c ek fl X (.Call (.Attribute (.Name x px) name apos) (e :: es) [] pos) (tMu j f TA) := by
  refine ⟨fun pins s σ H Q I h => ?_⟩
  obtain ⟨ρ, τ, R0, E0, S, hT, hQ, hE⟩ := h
  unfold tMu at hT
  split at hT
  · rename_i l0 e0
    obtain ⟨v, hv1, hty0⟩ : ∃ v, σ[j]? = some (some v) ∧ tyV X.K "list" v H := by
      obtain ⟨O, S0⟩ := S
      obtain ⟨u, e3, p, vs, rfl, ho, hp, rr⟩ := S0.sl j _ e0 (by intro z; cases z)
      exact ⟨_, e3, .inl ⟨rfl, vs, SqL.of hp⟩⟩
    refine (pe_bm pa slot hty hm (pe_var hN hv hd hcd) ha hbase hfew hline hs hplain).run pins s σ H Q I ⟨v, hv1, hty0, ρ, τ, _, E0, S, hT, fun rs ρ1 ws H1 h1 hl S1 => ?_, hE⟩
    exact (mu_core ok hv1 hl S1 h1 hQ).2
  · exact hT.elim
theorem p_mu0 (j : Nat) (pa : PlainAttrs "list") (slot : Slot "list" name id) (hty : typeOf (.builtin id) = pure (.type "method_descriptor")) (hm : MtR X id r) (ok : MuOk c f r) (hN : X.N[j]? = some x := by rfl) (hv : Vis X.env.scope x := by first | exact Or.inl rfl | exact Or.inr (Or.inl rfl) | exact Or.inr (Or.inr rfl)) (hd : (x == ("__debug__" : Str)) = false := by decide) (hcd : (x == ("__classdict__" : Str)) = false := by decide) (hK : X.K = c.K := by rfl)
    (hbase : attributeBase (.Name x px) name X.env (eval (.Name x px) X.env) = eval (.Name x px) X.env := by rfl) (hline : (apos.endLine == pos.line) = true := by rfl) :
    PEp c ek fl X (.Call (.Attribute (.Name x px) name apos) [] [] pos) (tMu j f tANil) := by
  refine ⟨fun pins s σ H Q I h => ?_⟩
  obtain ⟨ρ, τ, R0, E0, S, hT, hQ, hE⟩ := h
  unfold tMu at hT
  split at hT
  · rename_i l0 e0
    obtain ⟨v, hv1⟩ : ∃ v, σ[j]? = some (some v) := by
      obtain ⟨O, S0⟩ := S
      obtain ⟨u, e3, _⟩ := S0.sl j _ e0 (by intro z; cases z)
      exact ⟨_, e3⟩
    have hc := mu_core (rs := []) (ws := []) ok hv1 rfl S hT hQ
    rw [← hK] at hc
    exact (pe_bm0 pa slot hty hm (pe_var hN hv hd hcd) hbase hline).run pins s σ H Q I ⟨v, hv1, hc⟩
  · exact hT.elim
end
def fApp : MuF := fun l ds K => match ds with
  | [d] => l.length < sizeLine ∧ K .non (l ++ [d])
  | _ => False
theorem app_ok2 : MuOk c fApp rAppend := by
  intro A H p vs ws l ds Q K0 hp rl rd h hQ
  unfold fApp at h
  split at h
  · rename_i d
    obtain ⟨w, r, rfl, r1, r2⟩ := rd
    unfold Rps at r2; subst r2
    exact ⟨p, vs, w, rfl, rfl, hp, by rw [rl.length]; exact h.1, hQ _ _ _ _ h.2 Rp.ofNon (rl.app (.one r1))⟩
  · exact h.elim
def fExt : MuF := fun l ds K => match ds with
  | [.lst m] => l.length + m.length ≤ sizeLine ∧ K .non (l ++ m)
  | _ => False
theorem ext_ok2 : MuOk c fExt rExtend := by
  intro A H p vs ws l ds Q K0 hp rl rd h hQ
  unfold fExt at h
  split at h
  · rename_i m
    obtain ⟨w, r, rfl, r1, r2⟩ := rd
    unfold Rps at r2; subst r2
    obtain ⟨b, us, rfl, hb, rb⟩ := r1.top.lst
    exact ⟨p, b, vs, us, rfl, rfl, hp, hb, by rw [rl.length, rb.length]; exact h.1, hQ _ _ _ _ h.2 Rp.ofNon (rl.app rb)⟩
  · exact h.elim
def fPop : MuF := fun l ds K => match ds with
  | [] => match l[l.length - 1]? with
    | some d => K d l.dropLast
    | none => False
  | _ => False
theorem Rps.dropLast {K : PySem.W.Frag} {A : Av} {l : List D} {vs : List V} (h : Rps K H A l vs) : Rps K H A l.dropLast vs.dropLast := by
  rw [List.dropLast_eq_take, List.dropLast_eq_take, h.length]
  exact h.take _
theorem pop_ok2 : MuOk c fPop rPop := by
  intro A H p vs ws l ds Q K0 hp rl rd h hQ
  unfold fPop at h
  split at h
  · unfold Rps at rd; subst rd
    split at h
    · rename_i d e
      obtain ⟨w, e1, r1⟩ := rl.get e
      exact ⟨p, vs, w, rfl, rfl, hp, by rw [rl.length]; exact e1, hQ _ _ _ _ h r1 rl.dropLast⟩
    · exact h.elim
  · exact h.elim
def fIns : MuF := fun l ds K => match ds with
  | [.int i, d] => l.length < sizeLine ∧ (0 ≤ i ∧ i < 2 ^ 63) ∧ K .non (l.take i.toNat ++ [d] ++ l.drop i.toNat)
  | _ => False
theorem ins_ok2 : MuOk c fIns (fun x vs H Q => ∃ (l : Addr) (xs : List V) (i : Int) (y : V), x = .ref l ∧ vs = [.int i, y] ∧ H l = some (.lst xs) ∧ xs.length < sizeLine ∧ 0 ≤ i ∧ i < 2 ^ 63 ∧ Q .non (upd H l (.lst (xs.take i.toNat ++ [y] ++ xs.drop i.toNat)))) := by
  intro A H p vs ws l ds Q K0 hp rl rd h hQ
  unfold fIns at h
  split at h
  · rename_i i d
    obtain ⟨w1, r, rfl, r1, r2⟩ := rd
    obtain ⟨w2, r', rfl, r3, r4⟩ := r2
    unfold Rps at r4; subst r4
    exact ⟨p, vs, i, w2, rfl, by rw [r1.int], hp, by rw [rl.length]; exact h.1, h.2.1.1, h.2.1.2, hQ _ _ _ _ h.2.2 Rp.ofNon (((rl.take _).app (.one r3)).app (rl.drop _))⟩
  · exact h.elim
end
end Pm

namespace Pm
open PySem PySem.Spec PyProof.Rows L2
section
variable {c : Cc} {O O' : Ow} {H H' : Hp} {ρ ρ' : En} {τ τ' : List (V × R)} {σ σ' : St} {v : V} {ℓ ℓ' : Lab} {ct : Ct} {X : Cx} {ek : EK} {fl : Bool}
variable {a b e d0 : Expr} {rest : List Expr} {Ta Tb Tc Te : TEp} {TA' TB' TT' : TTp} {pos : Pos} {T U : TSp} {TA TB : TAp} {es : List Expr}

/-! ### slices -/
abbrev TOp := En → (Option Int → En → Prop) → (Exn → En → Prop) → Prop
def rdO (c : Cc) (ek : EK) (b : Bool) (T : TOp) : TO := fun σ H Q => ∃ ρ τ R0 E0, Sim c ρ τ σ H ∧ T ρ R0 E0 ∧ (∀ o ρ' H', R0 o ρ' → Sim c ρ' τ σ H' → Q o H') ∧ ek E0 σ ∧ (b = true → NoAlf τ)
abbrev POp (c : Cc) (ek : EK) (fl : Bool) (X : Cx) (e : Option Expr) (T : TOp) : Prop := PO X e (rdO c ek fl T)
def tONone : TOp := fun ρ R _ => R none ρ
def tOSome (Te : TEp) : TOp := fun ρ R E => Te ρ (fun r ρ1 => oD (vw ρ1 r) fun d => match d with | .int i => R (some i) ρ1 | _ => False) E
theorem o_none : POp c ek fl X none tONone := by
  refine ⟨fun pins s σ H Q I h => ?_⟩
  obtain ⟨ρ, τ, R0, E0, S, hT, hQ, hE⟩ := h
  exact po_none.run pins s σ H Q I (hQ _ _ _ hT S)
theorem oD.of {β : Type} {o : Option β} {k : β → Prop} (h : oD o k) : ∃ x, o = some x ∧ k x := by
  cases o with
  | none => exact h.elim
  | some x => exact ⟨x, rfl, h⟩
theorem o_some (he : PEp c ek fl X e Te) : POp c ek fl X (some e) (tOSome Te) := by
  refine ⟨fun pins s σ H Q I h => ?_⟩
  obtain ⟨ρ, τ, R0, E0, S, hT, hQ, hE⟩ := h
  refine (po_some he).run pins s σ H Q I ⟨ρ, τ, _, E0, S, hT, fun r ρ1 v H1 h1 S1 => ?_, hE⟩
  obtain ⟨d, e1, h2⟩ := h1.of
  obtain ⟨O, S1⟩ := S1
  split at h2
  · exact ⟨_, (S1.vw e1).int, hQ _ _ _ h2 ⟨O, S1.pop⟩⟩
  · exact h2.elim
def cutD (l : List D) (lo hi : Option Int) : List D := (l.drop (HT.sIx l.length 0 lo)).take (HT.sIx l.length l.length hi - HT.sIx l.length 0 lo)
theorem Rps.cut {K : PySem.W.Frag} {A : Av} {l : List D} {vs : List V} (h : Rps K H A l vs) (lo hi : Option Int) : Rps K H A (cutD l lo hi) (cutV vs lo hi) := by
  unfold cutD cutV
  rw [h.length]
  exact (h.drop _).take _
def slD (x : D) (lo hi : Option Int) (Q : Ct → Prop) : Prop := match x with
  | .lst l => Q (Wl (cutD l lo hi))
  | .tup l => Q (Fz (.tup (cutD l lo hi)))
  | .str z => z.length ≤ sizeLine ∧ Q (Fz (.str (cutS z lo hi)))
  | _ => False
theorem sl_all : SlR X (fun x lo hi H Q => rSlL X.K x lo hi H Q ∨ rSlA X.K x lo hi H Q ∨ rSlS x lo hi H Q) := sl_list.or (sl_tupA.or sl_str)
def tSlice (Te : TEp) (TL TU : TOp) : TEp := fun ρ R E => Te ρ (fun r ρ1 => nA r <| TL ρ1 (fun lo ρ2 => TU ρ2 (fun hi ρ3 => oD (vw ρ3 r) fun d => slD d lo hi fun ct => R (.va ct) ρ3) E) E) E
theorem p_slice {lo hi : Option Expr} {TL TU : TOp} {p2 : Pos} (he : PEp c ek fl X e Te) (hl : POp c ek fl X lo TL) (hu : POp c ek fl X hi TU) (hK : X.K = c.K := by rfl) : PEp c ek fl X (.Subscript e (.Slice lo hi none p2) pos) (tSlice Te TL TU) := by
  refine ⟨fun pins s σ H Q I h => ?_⟩
  obtain ⟨ρ, τ, R0, E0, S, hT, hQ, hE⟩ := h
  refine (pe_slice sl_all he hl hu).run pins s σ H Q I ⟨ρ, τ, _, E0, S, hT, fun r ρ1 v H1 h1 S1 => ?_, hE⟩
  obtain ⟨h1, n⟩ := h1.of
  have hE1 : ek E0 σ ∧ (fl = true → NoAlf ((v, r) :: τ)) := ⟨hE.1, fun z => n (hE.2 z)⟩
  refine ⟨ρ1, _, _, E0, S1, h1, fun o1 ρ2 H2 h2 S2 => ⟨ρ2, _, _, E0, S2, h2, fun o2 ρ3 H3 h3 S3 => ?_, hE1⟩, hE1⟩
  obtain ⟨d, e1, h4⟩ := h3.of
  obtain ⟨O, S3⟩ := S3
  have hv := S3.vw e1
  unfold slD at h4
  split at h4
  · obtain ⟨p, vs, rfl, q, rr⟩ := hv.lst
    exact .inl ⟨p, vs, rfl, SqL.of q, fun p' hp => hQ _ _ _ _ h4 (S3.pop.newLst hp (rr.cut o1 o2))⟩
  · obtain ⟨p, vs, rfl, q, rr⟩ := hv.tup
    refine .inr (.inl ⟨p, vs, rfl, by rw [hK]; exact q, fun z => ?_, fun _ p' hp => hQ _ _ _ _ h4 (S3.pop.newTup hp (rr.cut o1 o2))⟩)
    rename_i l
    refine hQ _ _ _ _ h4 ⟨O, S3.pop.push (ct := Fz (.tup (cutD l o1 o2))) ?_⟩
    rw [rr.length] at z
    have e2 : cutD l o1 o2 = l := by unfold cutD; rw [z.1, z.2, List.drop_zero, Nat.sub_zero, List.take_length]
    rw [e2]
    unfold COk FOk Rp; exact ⟨p, vs, rfl, q, rr⟩
  · exact .inr (.inr ⟨_, hv.str, h4.1, hQ _ _ _ _ h4.2 (Sim.pushFz ⟨O, S3.pop⟩ fun A => Rp.ofStr _)⟩)
  · exact h4.elim

/-! ### a < b < c, of ints -/
def cmpI : CmpOp → Option (Int → Int → Bool)
  | .Lt => some fun i j => decide (i < j)
  | .LtE => some fun i j => decide (i ≤ j)
  | .Gt => some fun i j => decide (j < i)
  | .GtE => some fun i j => decide (j ≤ i)
  | _ => none
theorem cmpI_ok {op : CmpOp} {f : Int → Int → Bool} (h : cmpI op = some f) : OpR X (compareOp op) (rI0 fun i j => .bl (f i j)) := by
  cases op <;> simp [cmpI] at h <;> subst h
  · exact op_lt
  · exact op_le
  · exact op_gt
  · exact op_ge
def intK (o : Option D) (k : Int → Prop) : Prop := match o with
  | some (.int i) => k i
  | _ => False
theorem intK.of {o : Option D} {k : Int → Prop} (h : intK o k) : ∃ i, o = some (.int i) ∧ k i := by
  unfold intK at h
  split at h
  · exact ⟨_, rfl, h⟩
  · exact h.elim
def tChainG (f g : Int → Int → Bool) (Ta Tb Tc : TEp) (ρ : En) (K : Bool → En → Prop) (E : Exn → En → Prop) : Prop := Ta ρ (fun ra ρ1 => nA ra <| Tb ρ1 (fun rb ρ2 => nA rb <| intK (vw ρ2 ra) fun i => intK (vw ρ2 rb) fun j => if f i j = true then Tc ρ2 (fun rc ρ3 => intK (vw ρ3 rc) fun k => K (g j k) ρ3) E else K false ρ2) E) E
def tChain (op op' : CmpOp) (Ta Tb Tc : TEp) : TEp := fun ρ R E => match cmpI op, cmpI op' with
  | some f, some g => tChainG f g Ta Tb Tc ρ (fun b ρ' => R (.va (Fz (.bl b))) ρ') E
  | _, _ => False
def tChainT (op op' : CmpOp) (Ta Tb Tc : TEp) : TTp := fun ρ R E => match cmpI op, cmpI op' with
  | some f, some g => tChainG f g Ta Tb Tc ρ R E
  | _, _ => False
theorem chain_rd {f g : Int → Int → Bool} {K : Bool → En → Prop} {E0 : Exn → En → Prop} {Q : Bool → Hp → Prop} (S : Sim c ρ τ σ H) (hT : tChainG f g Ta Tb Tc ρ K E0) (hQ : ∀ b ρ' H', K b ρ' → Sim c ρ' τ σ H' → Q b H') (hE : ek E0 σ ∧ (fl = true → NoAlf τ)) :
    L2.tChain (rI0 fun i j => .bl (f i j)) (rI0 fun i j => .bl (g i j)) (rd c ek fl Ta) (rd c ek fl Tb) (rd c ek fl Tc) σ H (fun x H' => ∃ k, x = .bl k ∧ Q k H') := by
  refine ⟨ρ, τ, _, E0, S, hT, fun ra ρ1 x H1 h1 S1 => ?_, hE⟩
  obtain ⟨h1, n1⟩ := h1.of
  refine ⟨ρ1, _, _, E0, S1, h1, fun rb ρ2 y H2 h2 S2 => ?_, hE.1, fun z => n1 (hE.2 z)⟩
  obtain ⟨h2, n2⟩ := h2.of
  obtain ⟨i, e1, h2⟩ := h2.of
  obtain ⟨j, e2, h2⟩ := h2.of
  obtain ⟨O, S2'⟩ := id S2
  obtain ⟨hx, hy⟩ := S2'.vw2 e1 e2
  refine ⟨i, j, hx.int, hy.int, f i j, rfl, ?_⟩
  by_cases hf : f i j = true
  · rw [if_pos hf] at h2 ⊢
    refine ⟨ρ2, _, _, E0, S2, h2, fun rc ρ3 z H3 h3 S3 => ?_, hE.1, fun z => n2 (n1 (hE.2 z))⟩
    obtain ⟨k, e3, h3⟩ := h3.of
    obtain ⟨O3, S3'⟩ := id S3
    exact ⟨j, k, hy.int, (S3'.vw e3).int, g j k, rfl, hQ _ _ _ h3 S3.pop.pop.pop⟩
  · rw [if_neg hf] at h2 ⊢
    exact ⟨false, rfl, hQ _ _ _ h2 S2.pop.pop⟩
theorem t_chain {op op' : CmpOp} (hu : X.A.units + 65 < cLine) (ha : PEp c ek fl X a Ta) (hb : PEp c ek fl X b Tb) (hc : PEp c ek fl X d0 Tc) (hm : lastMarks [op, op'] [b, d0] = false := by with_unfolding_all rfl) : PTp c ek fl X (.Compare a [op, op'] [b, d0] pos) (tChainT op op' Ta Tb Tc) := by
  refine ⟨fun pins s σ H Q I h => ?_⟩
  obtain ⟨ρ, τ, R0, E0, S, hT, hQ, hE⟩ := h
  unfold tChainT at hT
  split at hT
  · rename_i f g e1 e2
    exact (pt_chain (cmpI_ok e1) (cmpI_ok e2) ha hb hc hm).run pins s σ H Q I (chain_rd S hT hQ hE)
  · exact hT.elim
theorem p_chain {op op' : CmpOp} (hu : X.A.units + 65 < cLine) (ha : PEp c ek fl X a Ta) (hb : PEp c ek fl X b Tb) (hc : PEp c ek fl X d0 Tc) (hm : lastMarks [op, op'] [b, d0] = false := by with_unfolding_all rfl) : PEp c ek fl X (.Compare a [op, op'] [b, d0] pos) (tChain op op' Ta Tb Tc) := by
  refine ⟨fun pins s σ H Q I h => ?_⟩
  obtain ⟨ρ, τ, R0, E0, S, hT, hQ, hE⟩ := h
  unfold tChain at hT
  split at hT
  · rename_i f g e1 e2
    refine thn ((pe_chain (cmpI_ok e1) (cmpI_ok e2) ha hb hc hm).run pins s σ H (fun x H' => ∃ k, x = .bl k ∧ Q (.bl k) H') I (chain_rd (Q := fun b H' => Q (.bl b) H') S hT (fun b ρ' H' h1 S1 => hQ _ _ _ _ h1 (S1.pushFz fun A => Rp.ofBl b)) hE)) fun u s1 ⟨x, H1, I1, r1, k, e3, q⟩ => ?_
    subst e3
    exact ⟨_, H1, I1, r1, q⟩
  · exact hT.elim

/-! ### sum, all, any of a list -/
def ints? : List D → Option (List Int)
  | [] => some []
  | .int i :: l => (ints? l).map (i :: ·)
  | _ :: _ => none
def bls? : List D → Option (List Bool)
  | [] => some []
  | .bl i :: l => (bls? l).map (i :: ·)
  | _ :: _ => none
theorem ints_of {K : PySem.W.Frag} {A : Av} : ∀ {l : List D} {vs : List V} {ns : List Int}, Rps K H A l vs → ints? l = some ns → vs = ns.map V.int
  | [], vs, ns, h, e => by unfold Rps at h; subst h; cases e; rfl
  | d :: l, vs, ns, h, e => by
    obtain ⟨v, r, rfl, h1, h2⟩ := h
    cases d with
    | int i =>
      unfold ints? at e
      cases q : ints? l with
      | none => rw [q] at e; cases e
      | some ms =>
        rw [q] at e; cases e
        rw [h1.int, ints_of h2 q]; rfl
    | _ => unfold ints? at e; cases e
theorem bls_of {K : PySem.W.Frag} {A : Av} : ∀ {l : List D} {vs : List V} {ns : List Bool}, Rps K H A l vs → bls? l = some ns → vs = ns.map V.bl
  | [], vs, ns, h, e => by unfold Rps at h; subst h; cases e; rfl
  | d :: l, vs, ns, h, e => by
    obtain ⟨v, r, rfl, h1, h2⟩ := h
    cases d with
    | bl i =>
      unfold bls? at e
      cases q : bls? l with
      | none => rw [q] at e; cases e
      | some ms =>
        rw [q] at e; cases e
        rw [h1.top.bl, bls_of h2 q]; rfl
    | _ => unfold bls? at e; cases e
theorem ints_map : ∀ ns : List Int, ints? (ns.map .int) = some ns
  | [] => rfl
  | n :: ns => by show (ints? (ns.map .int)).map (n :: ·) = _; rw [ints_map ns]; rfl
theorem bls_map : ∀ ns : List Bool, bls? (ns.map .bl) = some ns
  | [] => rfl
  | n :: ns => by show (bls? (ns.map .bl)).map (n :: ·) = _; rw [bls_map ns]; rfl
def fSum (d : D) (Q : D → Prop) : Prop := match d with
  | .lst l => oD (ints? l) fun ns => Q (.int ns.sum)
  | _ => False
def fAll (d : D) (Q : D → Prop) : Prop := match d with
  | .lst l => oD (bls? l) fun ns => Q (.bl (ns.all id))
  | _ => False
def fAny (d : D) (Q : D → Prop) : Prop := match d with
  | .lst l => oD (bls? l) fun ns => Q (.bl (ns.any id))
  | _ => False
theorem sum_ok (hK : X.K = c.K) : CbOk c (rSum X.K) (cD1 fSum) := cD1_ok fun A H v d Q R0 hv hf hQ => by
  unfold fSum at hf
  split at hf
  · obtain ⟨ns, e, hf⟩ := hf.of
    obtain ⟨p, vs, rfl, q, r⟩ := hv.lst
    exact ⟨p, ns, rfl, by rw [← ints_of r e]; exact SqL.of q, hQ _ _ hf (Pl.int _)⟩
  · exact hf.elim
theorem all_ok (hK : X.K = c.K) : CbOk c (rAll X.K) (cD1 fAll) := cD1_ok fun A H v d Q R0 hv hf hQ => by
  unfold fAll at hf
  split at hf
  · obtain ⟨ns, e, hf⟩ := hf.of
    obtain ⟨p, vs, rfl, q, r⟩ := hv.lst
    exact ⟨p, ns, rfl, by rw [← bls_of r e]; exact SqL.of q, hQ _ _ hf (Pl.bl _)⟩
  · exact hf.elim
theorem any_ok (hK : X.K = c.K) : CbOk c (rAny X.K) (cD1 fAny) := cD1_ok fun A H v d Q R0 hv hf hQ => by
  unfold fAny at hf
  split at hf
  · obtain ⟨ns, e, hf⟩ := hf.of
    obtain ⟨p, vs, rfl, q, r⟩ := hv.lst
    exact ⟨p, ns, rfl, by rw [← bls_of r e]; exact SqL.of q, hQ _ _ hf (Pl.bl _)⟩
  · exact hf.elim

/-! ### their equations -/
variable {Rr : R → En → Prop} {Ee : Exn → En → Prop} {E : Ep} {TL TU : TOp} {Tr : Bool → En → Prop} {l : List D} {d : D}
theorem e_oNone {K : Option Int → En → Prop} : tONone ρ K Ee = K none ρ := rfl
def oiK (K : Option Int → En → Prop) (ρ : En) : D → Prop
  | .int i => K (some i) ρ
  | _ => False
theorem e_oSome {K : Option Int → En → Prop} : tOSome Te ρ K Ee = Te ρ (fun r ρ1 => oD (vw ρ1 r) (oiK K ρ1)) Ee := by
  have hk : ∀ (K : Option Int → En → Prop) (ρ1 : En), (fun d : D => match d with | .int i => K (some i) ρ1 | _ => False) = oiK K ρ1 := fun K ρ1 => by
    funext d
    cases d <;> rfl
  show Te ρ (fun r ρ1 => oD (vw ρ1 r) fun d => match d with | .int i => K (some i) ρ1 | _ => False) Ee = _
  have e : (fun (r : R) (ρ1 : En) => oD (vw ρ1 r) fun d : D => match d with | .int i => K (some i) ρ1 | _ => False) = fun r ρ1 => oD (vw ρ1 r) (oiK K ρ1) := by
    funext r ρ1
    rw [← hk K ρ1]
  exact congrArg (fun z => Te ρ z Ee) e
theorem oiK_int {K : Option Int → En → Prop} {i : Int} : oiK K ρ (.int i) = K (some i) ρ := rfl
theorem e_slice : tSlice Te TL TU ρ Rr Ee = Te ρ (fun r ρ1 => nA r (TL ρ1 (fun lo ρ2 => TU ρ2 (fun hi ρ3 => oD (vw ρ3 r) fun d => slD d lo hi fun ct => Rr (.va ct) ρ3) Ee) Ee)) Ee := rfl
theorem sl_lstD {lo hi : Option Int} {Q : Ct → Prop} : slD (.lst l) lo hi Q = Q (Wl (cutD l lo hi)) := rfl
theorem sl_tupD {lo hi : Option Int} {Q : Ct → Prop} : slD (.tup l) lo hi Q = Q (Fz (.tup (cutD l lo hi))) := rfl
theorem sl_strD {lo hi : Option Int} {z : Str} {Q : Ct → Prop} : slD (.str z) lo hi Q = (z.length ≤ sizeLine ∧ Q (Fz (.str (cutS z lo hi)))) := rfl
theorem intK_int {i : Int} {k : Int → Prop} : intK (some (.int i)) k = k i := rfl
theorem e_chG {f g : Int → Int → Bool} : tChainG f g Ta Tb Tc ρ Tr Ee = Ta ρ (fun ra ρ1 => nA ra (Tb ρ1 (fun rb ρ2 => nA rb (intK (vw ρ2 ra) fun i => intK (vw ρ2 rb) fun j => if f i j = true then Tc ρ2 (fun rc ρ3 => intK (vw ρ3 rc) fun k => Tr (g j k) ρ3) Ee else Tr false ρ2)) Ee)) Ee := rfl
theorem e_chT_le_lt : tChainT .LtE .Lt Ta Tb Tc ρ Tr Ee = tChainG (fun i j => decide (i ≤ j)) (fun i j => decide (i < j)) Ta Tb Tc ρ Tr Ee := rfl
theorem e_chT_lt_le : tChainT .Lt .LtE Ta Tb Tc ρ Tr Ee = tChainG (fun i j => decide (i < j)) (fun i j => decide (i ≤ j)) Ta Tb Tc ρ Tr Ee := rfl
theorem e_chT_le_le : tChainT .LtE .LtE Ta Tb Tc ρ Tr Ee = tChainG (fun i j => decide (i ≤ j)) (fun i j => decide (i ≤ j)) Ta Tb Tc ρ Tr Ee := rfl
theorem e_chT_lt_lt : tChainT .Lt .Lt Ta Tb Tc ρ Tr Ee = tChainG (fun i j => decide (i < j)) (fun i j => decide (i < j)) Ta Tb Tc ρ Tr Ee := rfl
theorem e_ch_le_lt : tChain .LtE .Lt Ta Tb Tc ρ Rr Ee = tChainG (fun i j => decide (i ≤ j)) (fun i j => decide (i < j)) Ta Tb Tc ρ (fun b ρ' => Rr (.va (Fz (.bl b))) ρ') Ee := rfl
theorem e_ch_lt_le : tChain .Lt .LtE Ta Tb Tc ρ Rr Ee = tChainG (fun i j => decide (i < j)) (fun i j => decide (i ≤ j)) Ta Tb Tc ρ (fun b ρ' => Rr (.va (Fz (.bl b))) ρ') Ee := rfl
theorem e_ch_le_le : tChain .LtE .LtE Ta Tb Tc ρ Rr Ee = tChainG (fun i j => decide (i ≤ j)) (fun i j => decide (i ≤ j)) Ta Tb Tc ρ (fun b ρ' => Rr (.va (Fz (.bl b))) ρ') Ee := rfl
theorem e_ch_lt_lt : tChain .Lt .Lt Ta Tb Tc ρ Rr Ee = tChainG (fun i j => decide (i < j)) (fun i j => decide (i < j)) Ta Tb Tc ρ (fun b ρ' => Rr (.va (Fz (.bl b))) ρ') Ee := rfl
theorem f_sum {Q : D → Prop} : fSum (.lst l) Q = oD (ints? l) fun ns => Q (.int ns.sum) := rfl
theorem f_all {Q : D → Prop} : fAll (.lst l) Q = oD (bls? l) fun ns => Q (.bl (ns.all id)) := rfl
theorem f_any {Q : D → Prop} : fAny (.lst l) Q = oD (bls? l) fun ns => Q (.bl (ns.any id)) := rfl
def muK (j : Nat) (f : MuF) (ds : List D) (Rr : R → En → Prop) (ρ : En) : Option Ct → Prop
  | some (.at (.ow l)) => f l ds fun res l' => Rr (.va (Fz res)) (ρ.set j (Wl l'))
  | _ => False
def muN (j : Nat) (f : MuF) (TA : TAp) (Rr : R → En → Prop) (Ee : Exn → En → Prop) (ρ : En) : Option Ct → Prop
  | some (.at (.ow _)) => TA ρ (fun rs ρ1 => fzK ρ1 rs fun ds ρ2 => muK j f ds Rr ρ2 ρ2[j]?) Ee
  | _ => False
theorem e_mu {j : Nat} {f : MuF} : tMu j f TA ρ Rr Ee = muN j f TA Rr Ee ρ ρ[j]? := by
  unfold tMu muN
  cases ρ[j]? with
  | none => rfl
  | some ct =>
    cases ct with
    | «at» g =>
      cases g with
      | ow l =>
        show TA ρ _ Ee = TA ρ _ Ee
        have hk : ∀ (ds : List D) (ρ2 : En), (match ρ2[j]? with | some (.at (.ow l)) => f l ds fun res l' => Rr (.va (Fz res)) (ρ2.set j (Wl l')) | _ => False) = muK j f ds Rr ρ2 ρ2[j]? := fun ds ρ2 => by
          cases ρ2[j]? with
          | none => rfl
          | some ct =>
            cases ct with
            | «at» g => cases g <;> rfl
            | _ => rfl
        first
          | (congr 1; done)
          | (congr 1; funext rs ρ1; congr 1; done)
          | (congr 1; funext rs ρ1; congr 1; funext ds ρ2; exact hk ds ρ2)
      | _ => rfl
    | _ => rfl
theorem muN_ow {j : Nat} {f : MuF} : muN j f TA Rr Ee ρ (some (.at (.ow l))) = TA ρ (fun rs ρ1 => fzK ρ1 rs fun ds ρ2 => muK j f ds Rr ρ2 ρ2[j]?) Ee := rfl
theorem muK_ow {j : Nat} {f : MuF} {ds : List D} : muK j f ds Rr ρ (some (.at (.ow l))) = f l ds fun res l' => Rr (.va (Fz res)) (ρ.set j (Wl l')) := rfl
theorem f_app {K : D → List D → Prop} : fApp l [d] K = (l.length < sizeLine ∧ K .non (l ++ [d])) := rfl
theorem f_ext {m : List D} {K : D → List D → Prop} : fExt l [.lst m] K = (l.length + m.length ≤ sizeLine ∧ K .non (l ++ m)) := rfl
theorem f_pop {K : D → List D → Prop} : fPop l [] K = oD l[l.length - 1]? fun d => K d l.dropLast := by
  show (match l[l.length - 1]? with | some d => K d l.dropLast | none => False) = _
  cases l[l.length - 1]? <;> rfl
theorem f_ins {i : Int} {K : D → List D → Prop} : fIns l [.int i, d] K = (l.length < sizeLine ∧ (0 ≤ i ∧ i < 2 ^ 63) ∧ K .non (l.take i.toNat ++ [d] ++ l.drop i.toNat)) := rfl
end
end Pm

namespace Pm
open PySem PySem.Spec PyProof.Rows L2
section
variable {c : Cc} {O O' : Ow} {H H' : Hp} {ρ ρ' : En} {τ τ' : List (V × R)} {σ σ' : St} {v : V} {ℓ ℓ' : Lab} {ct : Ct} {X : Cx} {ek : EK} {fl : Bool}
variable {a b e d0 : Expr} {rest : List Expr} {Ta Tb Tc Te : TEp} {TA' TB' TT' : TTp} {pos : Pos} {T U : TSp} {TA TB : TAp} {es : List Expr}
/-! ### constants of the module -/
theorem rp_const {K : PySem.W.Frag} {U : Addr} {od : Option Addr} {its : Array Value} {n : Nat} {sl : Array (Option Value)} {l : List D} {vs : List V} (h : K.lookup U = some ⟨.type "tuple", od, .seq its n, sl⟩) (hv : Vals vs its.toList) (hz : its.size ≤ sizeLine) (hd : ∀ H A, Rps K H A l vs) : ∀ H A, Rp K H A (.tup l) (.ref U) := by
  intro H A
  unfold Rp
  exact ⟨U, vs, rfl, .inr ⟨_, its, n, h, rfl, rfl, hz, hv⟩, hd H A⟩
theorem p_const {x : Str} {d : D} (C : ∃ (v : V) (u : Value), X.mg x = some u ∧ RelV v u ∧ ∀ H A, Rp c.K H A d v) (hg : Gl X x := by rfl) (hdb : (x == ("__debug__" : Str)) = false := by decide) : PEp c ek fl X (.Name x pos) (tK d) := by
  obtain ⟨v, u, h1, h2, h3⟩ := C
  exact p_glob hg h1 h2 h3 hdb
theorem sw_or {elt : Expr} {gs : List Comprehension} {scope : Scope} {pos py : Pos} {y : Str} {l : Nat} {env : Env} : swapsWith (.ListComp elt gs scope pos) (some (.Name y py)) l env = pure true ∨ swapsWith (.ListComp elt gs scope pos) (some (.Name y py)) l env = pure false := by
  unfold swapsWith
  simp only [Expr.pos]
  generalize (env.blockKind == .function && env.kindOf y == some .local && py.line == pos.line && !(scope.names.any fun (n, k) => n == y && (k == .local || k == .cell))) = b
  cases b
  · exact .inr rfl
  · exact .inl rfl
theorem s_setLcB (j : Nat) {scope : Scope} {tg iter elt : Expr} {ifs : List Expr} {TI : TIp'} {g : Tg} {tt : TTp} {own : List (Str × Nat)} {y : Str} {py spos : Pos} (hc : X.calm = true) (hN : X.N.Nodup) (hj : j ∉ c.lock) (hi : PIp' c ek0 true X tg iter TI) (ok : BlkOk X.N X.env.scope scope own) (hown : ∀ i ∈ own.map (·.2), c.nb ≤ i) (hlk : ∀ i ∈ own.map (·.2), i ∉ c.lock) (hsl : ∀ i ∈ g.sl, i ∈ own.map (·.2))
    (hg : ∀ (s : Shared) (H : Hp) (C : Addr) (cl : List (Str × Addr)) (fp : List Addr), PGp c (X.blk s H scope (compEnvC scope cl C X.env) fp) tg g) (ht : ∀ (s : Shared) (H : Hp) (C : Addr) (cl : List (Str × Addr)) (fp : List Addr), PTsp c ek0 true (X.blk s H scope (compEnvC scope cl C X.env) fp) ifs tt)
    (he : ∀ (s : Shared) (H : Hp) (C : Addr) (cl : List (Str × Addr)) (fp : List Addr), PEp c ek0 true (X.blk s H scope (compEnvC scope cl C X.env) fp) elt Te) (hy : X.N[j]? = some y := by rfl) (hyl : X.env.scope.names.lookup y = some .local := by rfl) (hs : ∀ x, foldedSetIterable iter X.env x = pure x := by intro _; rfl) :
    PSp c ek0 X (.Assign [.Name y py] (.ListComp elt [⟨tg, iter, ifs, 0⟩] scope pos) spos) (sSet j (tLc' TI g tt Te (own.map (·.2)))) := by
  rcases sw_or (elt := elt) (gs := [⟨tg, iter, ifs, 0⟩]) (scope := scope) (pos := pos) (py := py) (y := y) (l := spos.line) (env := X.env) with h | h
  · exact s_setLc j hc hN hj hi ok hown hlk hsl hg ht he hy hyl h hs
  · exact s_set j hN (p_lc hc hN hi ok hown hlk hsl hg ht he hs) hj hy (.inl hyl) h (.inr hyl)
end
theorem true_false_F : (true = false) = False := eq_false (by decide)
theorem eqD_bl {a b : Bool} : eqD (.bl a) (.bl b) = (a == b) := by unfold eqD; rfl
theorem c_eqB {a b : Bool} {Q : Bool → Prop} : opC .Eq (.bl a) (.bl b) Q = Q (a == b) := by
  have e : opC .Eq (.bl a) (.bl b) Q = (shp (.bl a) ∧ shp (.bl b) ∧ Q (eqD (.bl a) (.bl b))) := rfl
  rw [e, eqD_bl]
  exact propext ⟨fun h => h.2.2, fun h => ⟨rfl, rfl, h⟩⟩
theorem c_neB {a b : Bool} {Q : Bool → Prop} : opC .NotEq (.bl a) (.bl b) Q = Q (!(a == b)) := by
  have e : opC .NotEq (.bl a) (.bl b) Q = (shp (.bl a) ∧ shp (.bl b) ∧ Q (!eqD (.bl a) (.bl b))) := rfl
  rw [e, eqD_bl]
  exact propext ⟨fun h => h.2.2, fun h => ⟨rfl, rfl, h⟩⟩
end Pm

namespace Pm
open PySem PySem.Spec PyProof.Rows L2
/-! ### loops, by what stays true -/
theorem for_ind {α : Type} {f : α → D} {g : Tg} {T : TSp} {E : Ep} (I : List α → En → Prop) (step : ∀ (a : α) (l : List α) (ρ : En) (K : En → Prop), I (a :: l) ρ → (∀ ρ', I l ρ' → K ρ') → oD (tgK g (f a) ρ) fun ρ2 => T ρ2 (E.lp K)) (fin : ∀ ρ, I [] ρ → E.nx ρ) :
    ∀ (l : List α) (ρ : En), I l ρ → forK g T (l.map f) ρ E
  | [], ρ, h => by rw [List.map_nil, for_nil]; exact fin ρ h
  | a :: l, ρ, h => by
    rw [List.map_cons, for_cons]
    exact step a l ρ _ h fun ρ' h' => for_ind I step fin l ρ' h'
theorem lc_ind {α : Type} {f : α → D} {g : Tg} {t : TTp} {Te : TEp} {own : List Nat} {Ee : Exn → En → Prop} {Rr : R → En → Prop} (I : List α → List D → En → Prop)
    (step : ∀ (a : α) (l : List α) (acc : List D) (ρ : En) (K : List D → En → Prop), I (a :: l) acc ρ → (∀ acc' ρ', I l acc' ρ' → K acc' ρ') → oD (tgK g (f a) (wipeE ρ own)) fun ρ2 => t ρ2 (fun b ρ3 => if b = true then Te ρ3 (fun r ρ4 => oD (fzC ρ4 r) fun p => acc.length < sizeLine ∧ K (acc ++ [p.1]) (wipeE p.2 own)) Ee else K acc (wipeE ρ3 own)) Ee)
    (fin : ∀ acc ρ, I [] acc ρ → Rr (.va (Wl acc)) ρ) :
    ∀ (l : List α) (acc : List D) (ρ : En), I l acc ρ → lcK g t Te own Ee Rr (l.map f) acc ρ
  | [], acc, ρ, h => by rw [List.map_nil, lc_nil]; exact fin acc ρ h
  | a :: l, acc, ρ, h => by
    rw [List.map_cons, lc_cons]
    exact step a l acc ρ _ h fun acc' ρ' h' => lc_ind I step fin l acc' ρ' h'
theorem for_rng' {g : Tg} {T : TSp} {E : Ep} {lo : Int} (n : Nat) (I : Nat → En → Prop) (step : ∀ (k : Nat) (ρ : En) (K : En → Prop), k < n → I k ρ → (∀ ρ', I (k + 1) ρ' → K ρ') → oD (tgK g (.int (lo + k)) ρ) fun ρ2 => T ρ2 (E.lp K)) (fin : ∀ ρ, I n ρ → E.nx ρ) :
    ∀ (j k : Nat) (ρ : En), k + j = n → I k ρ → forK g T ((List.range' k j).map fun k : Nat => D.int (lo + k)) ρ E
  | 0, k, ρ, e, h => by
    rw [show List.range' k 0 = [] from rfl, List.map_nil, for_nil]
    have : k = n := by omega
    subst this
    exact fin ρ h
  | j + 1, k, ρ, e, h => by
    rw [List.range'_succ, List.map_cons, for_cons]
    exact step k ρ _ (by omega) h fun ρ' h' => for_rng' n I step fin j (k + 1) ρ' (by omega) h'
theorem for_rng {g : Tg} {T : TSp} {E : Ep} {lo : Int} {n : Nat} {ρ : En} (I : Nat → En → Prop) (h0 : I 0 ρ) (step : ∀ (k : Nat) (ρ : En) (K : En → Prop), k < n → I k ρ → (∀ ρ', I (k + 1) ρ' → K ρ') → oD (tgK g (.int (lo + k)) ρ) fun ρ2 => T ρ2 (E.lp K)) (fin : ∀ ρ, I n ρ → E.nx ρ) :
    forK g T (rngD lo n) ρ E := by
  show forK g T ((List.range n).map fun k : Nat => D.int (lo + k)) ρ E
  rw [List.range_eq_range']
  exact for_rng' n I step fin n 0 ρ (by omega) h0
theorem lc_rng' {g : Tg} {t : TTp} {Te : TEp} {own : List Nat} {Ee : Exn → En → Prop} {Rr : R → En → Prop} {lo : Int} (n : Nat) (I : Nat → List D → En → Prop)
    (step : ∀ (k : Nat) (acc : List D) (ρ : En) (K : List D → En → Prop), k < n → I k acc ρ → (∀ acc' ρ', I (k + 1) acc' ρ' → K acc' ρ') → oD (tgK g (.int (lo + k)) (wipeE ρ own)) fun ρ2 => t ρ2 (fun b ρ3 => if b = true then Te ρ3 (fun r ρ4 => oD (fzC ρ4 r) fun p => acc.length < sizeLine ∧ K (acc ++ [p.1]) (wipeE p.2 own)) Ee else K acc (wipeE ρ3 own)) Ee)
    (fin : ∀ acc ρ, I n acc ρ → Rr (.va (Wl acc)) ρ) :
    ∀ (j k : Nat) (acc : List D) (ρ : En), k + j = n → I k acc ρ → lcK g t Te own Ee Rr ((List.range' k j).map fun k : Nat => D.int (lo + k)) acc ρ
  | 0, k, acc, ρ, e, h => by
    rw [show List.range' k 0 = [] from rfl, List.map_nil, lc_nil]
    have : k = n := by omega
    subst this
    exact fin acc ρ h
  | j + 1, k, acc, ρ, e, h => by
    rw [List.range'_succ, List.map_cons, lc_cons]
    exact step k acc ρ _ (by omega) h fun acc' ρ' h' => lc_rng' n I step fin j (k + 1) acc' ρ' (by omega) h'
theorem lc_rng {g : Tg} {t : TTp} {Te : TEp} {own : List Nat} {Ee : Exn → En → Prop} {Rr : R → En → Prop} {lo : Int} {n : Nat} {acc : List D} {ρ : En} (I : Nat → List D → En → Prop) (h0 : I 0 acc ρ)
    (step : ∀ (k : Nat) (acc : List D) (ρ : En) (K : List D → En → Prop), k < n → I k acc ρ → (∀ acc' ρ', I (k + 1) acc' ρ' → K acc' ρ') → oD (tgK g (.int (lo + k)) (wipeE ρ own)) fun ρ2 => t ρ2 (fun b ρ3 => if b = true then Te ρ3 (fun r ρ4 => oD (fzC ρ4 r) fun p => acc.length < sizeLine ∧ K (acc ++ [p.1]) (wipeE p.2 own)) Ee else K acc (wipeE ρ3 own)) Ee)
    (fin : ∀ acc ρ, I n acc ρ → Rr (.va (Wl acc)) ρ) : lcK g t Te own Ee Rr (rngD lo n) acc ρ := by
  show lcK g t Te own Ee Rr ((List.range n).map fun k : Nat => D.int (lo + k)) acc ρ
  rw [List.range_eq_range']
  exact lc_rng' n I step fin n 0 acc ρ (by omega) h0
theorem lc_pure {α : Type} {f : α → D} {g : Tg} {t : TTp} {Te : TEp} {own : List Nat} {Ee : Exn → En → Prop} {Rr : R → En → Prop} (h : α → List D) (ρ : En) (P : α → Prop)
    (step : ∀ (a : α) (acc : List D) (K : List D → En → Prop), P a → acc.length < sizeLine → K (acc ++ h a) ρ → oD (tgK g (f a) (wipeE ρ own)) fun ρ2 => t ρ2 (fun b ρ3 => if b = true then Te ρ3 (fun r ρ4 => oD (fzC ρ4 r) fun p => acc.length < sizeLine ∧ K (acc ++ [p.1]) (wipeE p.2 own)) Ee else K acc (wipeE ρ3 own)) Ee)
    (h1 : ∀ a, (h a).length ≤ 1) :
    ∀ (l : List α) (acc : List D), (∀ a ∈ l, P a) → acc.length + l.length ≤ sizeLine → Rr (.va (Wl (acc ++ l.flatMap h))) ρ → lcK g t Te own Ee Rr (l.map f) acc ρ
  | [], acc, _, _, q => by rw [List.map_nil, lc_nil]; simpa using q
  | a :: l, acc, hP, hl, q => by
    rw [List.map_cons, lc_cons]
    rw [List.length_cons] at hl
    refine step a acc _ (hP a List.mem_cons_self) (by omega) (lc_pure h ρ P step h1 l (acc ++ h a) (fun x hx => hP x (List.mem_cons_of_mem _ hx)) ?_ ?_)
    · have := h1 a
      rw [List.length_append]; omega
    · rw [List.append_assoc]; exact q
theorem flat1 {α β : Type} {f : α → β} : ∀ l : List α, l.flatMap (fun x => [f x]) = l.map f
  | [] => rfl
  | a :: l => by rw [List.flatMap_cons, flat1 l]; rfl
theorem rngD_map (lo : Int) (n : Nat) : rngD lo n = (List.range n).map fun k : Nat => D.int (lo + k) := rfl
end Pm

namespace Pm
open PySem PySem.Spec PyProof.Rows L2
section
variable {c : Cc} {O O' : Ow} {H H' : Hp} {ρ ρ' : En} {τ τ' : List (V × R)} {σ σ' : St} {v : V} {ℓ ℓ' : Lab} {ct : Ct} {X : Cx} {ek : EK} {fl : Bool}
variable {a b e d0 : Expr} {rest : List Expr} {Ta Tb Tc Te : TEp} {TA' TB' TT' : TTp} {pos : Pos} {T U : TSp} {TA TB : TAp} {es : List Expr}
/-! ### a comprehension over an owned list that stays owned -/
def owAt (ρ : En) (j : Nat) : Option (List D) := match ρ[j]? with
  | some (.at (.ow l)) => some l
  | _ => none
theorem owAt_of {l : List D} {j : Nat} (h : owAt ρ j = some l) : ρ[j]? = some (Wl l) := by
  unfold owAt at h
  split at h
  · rename_i l' e; cases h; exact e
  · cases h
def lcO (j : Nat) (l : List D) (g : Tg) (tt : TTp) (te : TEp) (own : List Nat) (E : Exn → En → Prop) (R : R → En → Prop) : List D → List D → En → Prop
  | [], acc, ρ => owAt ρ j = some l ∧ R (.va (Wl acc)) ρ
  | d :: ds, acc, ρ => owAt ρ j = some l ∧ oD (tgK g d (wipeE ρ own)) fun ρ2 => tt ρ2 (fun b ρ3 => if b = true then te ρ3 (fun r ρ4 => oD (fzC ρ4 r) fun p => acc.length < sizeLine ∧ lcO j l g tt te own E R ds (acc ++ [p.1]) (wipeE p.2 own)) E else lcO j l g tt te own E R ds acc (wipeE ρ3 own)) E
def tLcO (j : Nat) (g : Tg) (tt : TTp) (te : TEp) (own : List Nat) : TEp := fun ρ R E => oD (owAt ρ j) fun l => lcO j l g tt te own E R l [] (wipeE ρ own)
def rdIO (c : Cc) (K : PySem.W.Frag) (j : Nat) : TI := fun σ H R => ∃ ρ τ l a, Sim c ρ τ σ H ∧ owAt ρ j = some l ∧ σ[j]? = some (some (.ref a)) ∧ R (Itl K a) H
theorem Sim0.owned {l : List D} {j : Nat} {p : Addr} (S : Sim0 c H O ρ τ σ) (h : owAt ρ j = some l) (e : σ[j]? = some (some (.ref p))) : ∃ vs, H p = some (.lst vs) ∧ Rps c.K H (c.av O) l vs := by
  obtain ⟨v, e1, q⟩ := S.sl j _ (owAt_of h) (by intro z; cases z)
  rw [e] at e1; cases e1
  obtain ⟨a', vs, e2, o, ha, rr⟩ := q
  cases e2
  exact ⟨vs, ha, rr⟩
theorem i_own {tg : Expr} (j : Nat) {x : Str} (hN : X.N[j]? = some x := by rfl) (hv : Vis X.env.scope x := by first | exact Or.inl rfl | exact Or.inr (Or.inl rfl) | exact Or.inr (Or.inr rfl)) (hd : (x == ("__debug__" : Str)) = false := by decide)
    (hcd : (x == ("__classdict__" : Str)) = false := by decide) : PI X tg (.Name x pos) (rdIO c X.K j) := by
  refine ⟨fun pins s σ H Q I h => ?_⟩
  obtain ⟨ρ, τ, l, a, S, ho, e, hQ⟩ := h
  refine thn ((pe_var hN hv hd hcd).run pins s σ H (fun v H1 => v = .ref a ∧ H1 = H) I ⟨_, e, rfl, rfl⟩) fun v s1 ⟨x, H1, I1, rv, e1, e2⟩ => ?_
  subst e1 e2
  cases rv
  obtain ⟨O, S⟩ := S
  obtain ⟨vs, ha, _⟩ := S.owned ho e
  exact it_lst I1 (SqL.of ha) hQ
theorem lc_rdO {j : Nat} {g : Tg} {tt : TTp} {te : TEp} {own : List Nat} {Q : VK} {K : PySem.W.Frag} (hj : j < c.nb) (hown : ∀ i ∈ own, c.nb ≤ i) (hlk : ∀ i ∈ own, i ∉ c.lock) (hg : ∀ i ∈ g.sl, i ∈ own) (hek : ∀ E0 σ σ', ek E0 σ → ek E0 σ')
    (h : rd c ek fl (tLcO j g tt te own) σ H Q) : tLc (rdIO c K j) (rdG c g) (rdT c ek fl tt) (rd c ek fl te) own σ H Q := by
  obtain ⟨ρ, τ, R0, E0, S, hT, hQ, hE⟩ := h
  obtain ⟨l, ho, hT⟩ := hT.of
  obtain ⟨p, hp⟩ : ∃ p, σ[j]? = some (some (.ref p)) := by
    obtain ⟨O, S⟩ := S
    obtain ⟨v, e1, q⟩ := S.sl j _ (owAt_of ho) (by intro z; cases z)
    obtain ⟨a', vs, e2, o, ha, rr⟩ := q
    cases e2
    exact ⟨_, e1⟩
  have hjo : j ∉ own := fun z => by have := hown j z; omega
  refine ⟨ρ, τ, l, p, S, ho, hp, ?_⟩
  intro D hD
  have hpw : (wipe σ own)[j]? = some (some (.ref p)) := by rw [wipe_outS hjo]; exact hp
  have nalf3 : ∀ acc, fl = true → NoAlf ((V.ref D, R.va (Wl acc)) :: τ) := fun acc z w i f m => by
    rcases List.mem_cons.mp m with e | m
    · cases e
    · exact hE.2 z w i f m
  refine ⟨fun i m H => m = l.length - i ∧ i ≤ l.length ∧ ∃ ρ acc, Sim c ρ ((.ref D, .va (Wl acc)) :: τ) (wipe σ own) H ∧ (∀ j ∈ own, ∀ ct, ρ[j]? = some ct → ct = .no) ∧ lcO j l g tt te own E0 R0 (l.drop i) acc ρ,
    ⟨l.length, by simp, Nat.zero_le _, wipeE ρ own, [], ?_, fun j hj ct q => wipeE_in hj ct q, hT⟩, ?_⟩
  · obtain ⟨O, S1⟩ := S
    obtain ⟨O2, S2⟩ := S1.newLst hD Rps.nil
    exact ⟨O2, S2.wipe hown hlk (wipe_length σ own) (fun i hi => wipe_outS hi)⟩
  · rintro i m H2 ⟨rfl, hi, ρ2, acc, S2, hno, hk⟩
    by_cases hlt : i < l.length
    · have hd : l[i]? = some l[i] := List.getElem?_eq_getElem hlt
      rw [List.drop_eq_getElem_cons hlt] at hk
      unfold lcO at hk
      obtain ⟨ho2, hk⟩ := hk
      obtain ⟨O, S2⟩ := S2
      obtain ⟨vs, ha, rr⟩ := S2.owned ho2 hpw
      obtain ⟨w, hw, rw'⟩ := rr.get hd
      refine .inr ⟨⟨vs, w, SqL.of ha, hw⟩, fun H' => ∃ ρ acc, Sim c ρ ((.ref D, .va (Wl acc)) :: τ) (wipe σ own) H' ∧ (∀ j ∈ own, ∀ ct, ρ[j]? = some ct → ct = .no) ∧ lcO j l g tt te own E0 R0 (l.drop (i + 1)) acc ρ, fun H' hN => ⟨l.length - (i + 1), by omega, rfl, hlt, hN⟩, fun x H' y => ?_⟩
      obtain ⟨e1, y⟩ := y
      subst e1
      have y := y vs (SqL.of ha)
      rw [hw] at y
      cases y
      obtain ⟨ρ', e1, hk⟩ := hk.of
      refine ⟨wipeE ρ2 own, _, l[i], ρ', O, S2.wipe hown hlk rfl (fun _ _ => rfl), .inr (fun j hj => hown j (hg j hj)), rw', e1, fun σ2 agr S4 => ⟨wipe_agr agr hg, ?_⟩⟩
      have back : ∀ {ρ5 : En} {H5 : Hp} {O5 : Ow} {acc : List Pm.D}, Sim0 c H5 O5 ρ5 ((.ref D, .va (Wl acc)) :: τ) σ2 → Sim0 c H5 O5 (wipeE ρ5 own) ((.ref D, .va (Wl acc)) :: τ) (wipe σ own) := fun {ρ5 H5 O5 acc} S =>
        S.wipe hown hlk agr.1.symm (fun j hj => (agr.2 j (fun z => hj (hg j z))).symm)
      refine ⟨ρ', _, _, E0, ⟨O, S4⟩, hk, fun b ρ3 H3 h3 S5 => ?_, hek _ _ _ hE.1, nalf3 acc⟩
      cases b with
      | true =>
        rw [if_pos rfl] at h3 ⊢
        refine ⟨ρ3, _, _, E0, S5, h3, fun r ρ4 y H4 h4 S6 => ?_, hek _ _ _ hE.1, nalf3 acc⟩
        obtain ⟨O6, S6⟩ := S6
        obtain ⟨⟨dy, ρ5⟩, e5, h4⟩ := h4.of
        obtain ⟨O7, S7, r7, _⟩ := fzC_ok S6 e5
        obtain ⟨vs, hv, hl, S8⟩ := S7.appTop r7
        exact ⟨vs, hv, by rw [hl]; exact h4.1, _, _, ⟨_, back S8⟩, fun j hj ct q => wipeE_in hj ct q, h4.2⟩
      | false =>
        rw [if_neg Bool.false_ne_true] at h3 ⊢
        obtain ⟨O5, S5⟩ := S5
        exact ⟨_, acc, ⟨_, back S5⟩, fun j hj ct q => wipeE_in hj ct q, h3⟩
    · have e : i = l.length := by omega
      subst e
      rw [List.drop_length] at hk
      unfold lcO at hk
      obtain ⟨ho2, hk⟩ := hk
      obtain ⟨O, S2⟩ := S2
      obtain ⟨vs, ha, rr⟩ := S2.owned ho2 hpw
      refine .inl ⟨⟨vs, SqL.of ha, by rw [rr.length]; exact Nat.le_refl _⟩, hQ _ _ _ _ hk ?_⟩
      have := S2.wipe (σ' := σ) hown hlk (wipe_length σ own).symm (fun j hj => (wipe_outS hj).symm)
      rw [wipeE_eq hno] at this
      exact ⟨O, this⟩
variable {elt tg iter : Expr} {ifs : List Expr} {scope : Scope} {own : List (Str × Nat)} {g : Tg} {tt : TTp}
theorem p_lcO (j : Nat) {x : Str} {py : Pos} (hj : j < c.nb) (hc : X.calm = true) (hN : X.N.Nodup) (ok : BlkOk X.N X.env.scope scope own) (hown : ∀ i ∈ own.map (·.2), c.nb ≤ i) (hlk : ∀ i ∈ own.map (·.2), i ∉ c.lock) (hsl : ∀ i ∈ g.sl, i ∈ own.map (·.2))
    (hg : ∀ (s : Shared) (H : Hp) (C : Addr) (cl : List (Str × Addr)) (fp : List Addr), PGp c (X.blk s H scope (compEnvC scope cl C X.env) fp) tg g) (ht : ∀ (s : Shared) (H : Hp) (C : Addr) (cl : List (Str × Addr)) (fp : List Addr), PTsp c ek0 fl (X.blk s H scope (compEnvC scope cl C X.env) fp) ifs tt)
    (he : ∀ (s : Shared) (H : Hp) (C : Addr) (cl : List (Str × Addr)) (fp : List Addr), PEp c ek0 fl (X.blk s H scope (compEnvC scope cl C X.env) fp) elt Te)
    (hNx : X.N[j]? = some x := by rfl) (hv : Vis X.env.scope x := by first | exact Or.inl rfl | exact Or.inr (Or.inl rfl) | exact Or.inr (Or.inr rfl)) (hd : (x == ("__debug__" : Str)) = false := by decide)
    (hcd : (x == ("__classdict__" : Str)) = false := by decide) (hs : ∀ y, foldedSetIterable (.Name x py) X.env y = pure y := by intro _; rfl) :
    PEp c ek0 fl X (.ListComp elt [⟨tg, .Name x py, ifs, 0⟩] scope pos) (tLcO j g tt Te (own.map (·.2))) :=
  ⟨fun pins s σ H Q I h => (pe_lc hc hN (i_own (c := c) j hNx hv hd hcd) ok hg ht he hs).run pins s σ H Q I (lc_rdO hj hown hlk hsl ek0_any h)⟩
end
section
variable {ρ : En} {Ee : Exn → En → Prop} {Rr : R → En → Prop} {t : TTp} {Te : TEp} {g : Tg} {own : List Nat} {j : Nat}
theorem e_lcO : tLcO j g t Te own ρ Rr Ee = oD (owAt ρ j) fun l => lcO j l g t Te own Ee Rr l [] (wipeE ρ own) := rfl
theorem ow_at (l : List D) : owAt ρ j = match ρ[j]? with | some (.at (.ow l)) => some l | _ => none := rfl
theorem owAt_some {l : List D} (h : ρ[j]? = some (Wl l)) : owAt ρ j = some l := by unfold owAt; rw [h]
/-- a pure one: the state stays -/
theorem lcO_pure {α : Type} {f : α → D} {l0 : List D} (h : α → List D) (ρ : En) (P : α → Prop) (ho : owAt ρ j = some l0)
    (step : ∀ (a : α) (acc : List D) (K : List D → En → Prop), P a → acc.length < sizeLine → K (acc ++ h a) ρ → oD (tgK g (f a) (wipeE ρ own)) fun ρ2 => t ρ2 (fun b ρ3 => if b = true then Te ρ3 (fun r ρ4 => oD (fzC ρ4 r) fun p => acc.length < sizeLine ∧ K (acc ++ [p.1]) (wipeE p.2 own)) Ee else K acc (wipeE ρ3 own)) Ee)
    (h1 : ∀ a, (h a).length ≤ 1) :
    ∀ (l : List α) (acc : List D), (∀ a ∈ l, P a) → acc.length + l.length ≤ sizeLine → Rr (.va (Wl (acc ++ l.flatMap h))) ρ → lcO j l0 g t Te own Ee Rr (l.map f) acc ρ
  | [], acc, _, _, q => by rw [List.map_nil]; exact ⟨ho, by simpa using q⟩
  | a :: l, acc, hP, hl, q => by
    rw [List.map_cons]
    rw [List.length_cons] at hl
    refine ⟨ho, step a acc _ (hP a List.mem_cons_self) (by omega) (lcO_pure h ρ P ho step h1 l (acc ++ h a) (fun x hx => hP x (List.mem_cons_of_mem _ hx)) ?_ ?_)⟩
    · have := h1 a
      rw [List.length_append]; omega
    · rw [List.append_assoc]; exact q
end
end Pm

namespace Pm
open PySem PySem.Spec PyProof.Rows L2
section
variable {c : Cc} {O O' : Ow} {H H' : Hp} {ρ ρ' : En} {τ τ' : List (V × R)} {σ σ' : St} {v : V} {ℓ ℓ' : Lab} {ct : Ct} {X : Cx} {ek : EK} {fl : Bool}
variable {a b e d0 : Expr} {rest : List Expr} {Ta Tb Tc Te : TEp} {TA' TB' TT' : TTp} {pos : Pos} {T U : TSp} {TA TB : TAp} {es : List Expr}
/-! ### sorted, max, min of a list of ints -/
def insI (x : Int) : List Int → List Int
  | [] => [x]
  | y :: l => if x ≤ y then x :: y :: l else y :: insI x l
def srt : List Int → List Int
  | [] => []
  | x :: l => insI x (srt l)
theorem insI_perm (x : Int) : ∀ l, (insI x l).Perm (x :: l)
  | [] => .refl _
  | y :: l => by
    unfold insI
    split
    · exact .refl _
    · exact ((insI_perm x l).cons y).trans (.swap _ _ _)
theorem srt_perm : ∀ l, (srt l).Perm l
  | [] => .refl _
  | x :: l => (insI_perm x (srt l)).trans ((srt_perm l).cons x)
theorem insI_sorted (x : Int) : ∀ {l : List Int}, l.Pairwise (· ≤ ·) → (insI x l).Pairwise (· ≤ ·)
  | [], _ => by unfold insI; simp
  | y :: l, h => by
    unfold insI
    rw [List.pairwise_cons] at h
    split
    · rename_i hxy
      refine List.pairwise_cons.mpr ⟨fun z hz => ?_, List.pairwise_cons.mpr h⟩
      rcases List.mem_cons.mp hz with rfl | hz
      · exact hxy
      · have := h.1 z hz; omega
    · rename_i hxy
      refine List.pairwise_cons.mpr ⟨fun z hz => ?_, insI_sorted x h.2⟩
      rcases List.mem_cons.mp ((insI_perm x l).mem_iff.mp hz) with rfl | hz
      · omega
      · exact h.1 z hz
theorem srt_sorted : ∀ l, (srt l).Pairwise (· ≤ ·)
  | [] => .nil
  | x :: l => insI_sorted x (srt_sorted l)
theorem sorted_eq : ∀ {l m : List Int}, l.Perm m → l.Pairwise (· ≤ ·) → m.Pairwise (· ≤ ·) → l = m
  | [], m, p, _, _ => p.nil_eq
  | x :: l, [], p, _, _ => absurd p.length_eq (by simp)
  | x :: l, y :: m, p, h1, h2 => by
    rw [List.pairwise_cons] at h1 h2
    have e : x = y := by
      have a1 := p.mem_iff.mp (show x ∈ x :: l from List.mem_cons_self)
      have a2 := p.mem_iff.mpr (show y ∈ y :: m from List.mem_cons_self)
      rcases List.mem_cons.mp a1 with q | q
      · exact q
      · rcases List.mem_cons.mp a2 with q2 | q2
        · exact q2.symm
        · have := h2.1 x q; have := h1.1 y q2; omega
    subst e
    rw [sorted_eq (p.cons_inv) h1.2 h2.2]
theorem srt_of {l ns : List Int} (p : l.Perm ns) (h : l.Pairwise (· ≤ ·)) : l = srt ns := sorted_eq (p.trans (srt_perm ns).symm) h (srt_sorted ns)
def cSort : CbT := fun rs ρ R => match rs with
  | [r] => wD (vw ρ r) fun d => match d with
    | .lst l => wI (ints? l) fun ns => R (.va (Wl ((srt ns).map .int))) ρ
    | _ => False
  | _ => False
where wI (o : Option (List Int)) (k : List Int → Prop) : Prop := match o with
  | some d => k d
  | none => False
theorem sort_ok (hK : X.K = c.K) : CbOk c (rSortedI X.K) cSort := by
  intro σ ρ τ vs rs H Q R0 S hl hT hQ
  rw [hK]
  unfold cSort at hT
  split at hT
  · rename_i r'
    obtain ⟨d, e1, h1⟩ := hT.of
    match vs, hl with
    | [v], _ =>
      obtain ⟨O, S⟩ := S
      have hv := S.vw e1
      split at h1
      · obtain ⟨p, vs, rfl, q, r⟩ := hv.lst
        unfold cSort.wI at h1
        split at h1
        · rename_i ns e2
          have e3 := ints_of r e2
          subst e3
          refine ⟨p, ns, rfl, SqL.of q, fun ns' p' hp hs hn => ?_⟩
          have e4 := srt_of hp hs
          subst e4
          exact hQ _ _ _ _ h1 (S.pop.newLst hn (rps_ints _))
        · exact h1.elim
      · exact h1.elim
  · exact hT.elim
def fMaxL (d : D) (Q : D → Prop) : Prop := match d with
  | .lst l => oD (ints? l) fun ns => 0 < ns.length ∧ ∀ m, m ∈ ns → (∀ y, y ∈ ns → y ≤ m) → Q (.int m)
  | _ => False
def fMinL (d : D) (Q : D → Prop) : Prop := match d with
  | .lst l => oD (ints? l) fun ns => 0 < ns.length ∧ ∀ m, m ∈ ns → (∀ y, y ∈ ns → m ≤ y) → Q (.int m)
  | _ => False
theorem maxL_ok (hK : X.K = c.K) : CbOk c (rMax X.K) (cD1 fMaxL) := cD1_ok fun A H v d Q R0 hv hf hQ => by
  unfold fMaxL at hf
  split at hf
  · obtain ⟨ns, e, hf⟩ := hf.of
    obtain ⟨p, vs, rfl, q, r⟩ := hv.lst
    exact ⟨p, ns, rfl, by rw [← ints_of r e]; exact SqL.of q, hf.1, fun m h1 h2 => hQ _ _ (hf.2 m h1 h2) (Pl.int _)⟩
  · exact hf.elim
theorem minL_ok (hK : X.K = c.K) : CbOk c (rMin X.K) (cD1 fMinL) := cD1_ok fun A H v d Q R0 hv hf hQ => by
  unfold fMinL at hf
  split at hf
  · obtain ⟨ns, e, hf⟩ := hf.of
    obtain ⟨p, vs, rfl, q, r⟩ := hv.lst
    exact ⟨p, ns, rfl, by rw [← ints_of r e]; exact SqL.of q, hf.1, fun m h1 h2 => hQ _ _ (hf.2 m h1 h2) (Pl.int _)⟩
  · exact hf.elim
/-! their equations -/
def srtK (R : R → En → Prop) (ρ : En) : D → Prop
  | .lst l => oD (ints? l) fun ns => R (.va (Wl ((srt ns).map .int))) ρ
  | _ => False
theorem e_cSort {r : R} {K : R → En → Prop} : cSort [r] ρ K = oD (vw ρ r) (srtK K ρ) := by
  show wD (vw ρ r) _ = _
  cases vw ρ r with
  | none => rfl
  | some d =>
    show (match d with | .lst l => _ | _ => False) = srtK K ρ d
    cases d with
    | lst l =>
      show cSort.wI (ints? l) _ = oD (ints? l) _
      cases ints? l <;> rfl
    | _ => rfl
theorem srtK_lst {K : R → En → Prop} {l : List D} : srtK K ρ (.lst l) = oD (ints? l) fun ns => K (.va (Wl ((srt ns).map .int))) ρ := rfl
theorem f_maxL {l : List D} {Q : D → Prop} : fMaxL (.lst l) Q = oD (ints? l) fun ns => 0 < ns.length ∧ ∀ m, m ∈ ns → (∀ y, y ∈ ns → y ≤ m) → Q (.int m) := rfl
theorem f_minL {l : List D} {Q : D → Prop} : fMinL (.lst l) Q = oD (ints? l) fun ns => 0 < ns.length ∧ ∀ m, m ∈ ns → (∀ y, y ∈ ns → m ≤ y) → Q (.int m) := rfl
end
end Pm

namespace Pm
open PySem PySem.Spec PyProof.Rows L2
/-! ### enumerate over a list or a tuple -/
def ItE (rd : Hp → List V → Prop) (k : Int) : It :=
  ⟨fun i H => ∃ us u, rd H us ∧ us[i]? = some u, fun i H v H' => ∃ t u, v = .ref t ∧ H t = none ∧ H' = upd H t (.tup [.int (k + (i : Int)), u]) ∧ ∀ us, rd H us → us[i]? = some u, fun i H => ∃ us, rd H us ∧ us.length ≤ i⟩

theorem en_endL {P : Program} {w : World} {A : Around} {E : Value → Shared → Prop} {s : Shared} {e it a : Addr} {i : Nat} {c : Int} {its : Array Value} {old : Value} {Q : Option Value → Shared → Prop} (hh : A.handled = none) (he : IsEnum s.heap e it c old) (hit : s.heap.IsListIter it a i) (hl : s.heap.IsList a its) (hx : its[i]? = none)
    (hQ : ∀ h', Heap.ExtBut it s.heap h' → Q none { s with heap := h' }) : wpAny (model P w) A (pyNext (.ref e)) Q E s := by
  have hT : s.TypeIs (.ref e) "enumerate" := ⟨_, he, rfl⟩
  unfold pyNext
  refine wpAny_bind (wpAny_attempt (wpAny_callSpecial?_slot (name := Str.ofString "__next__") hT F.slot_enumerate_next (wpAny_call_entry F.slot_enumerate_next hT F.entry_enumerate_next ?_ (F.args_enumerate_next_1 _))))
  show wpAny _ _ (field (.ref e) 2 >>= _) _ _ _
  refine wpAny_bind (wpAny_field he rfl (x := .ref it) rfl (wpAny_bind (wpAny_nextOf_list_end (A := A.in1) hh hit hl hx fun h' x he' hx' => ?_)))
  obtain ⟨o, ho, hc⟩ := hx'
  exact wpAny_bind (wpAny_isInstance (T := "StopIteration") (b := true) ⟨o, ho, hc⟩ isSubtype_stop (wpAny_pure (hQ _ he')))

theorem turn_enL {P : Program} {w : World} {K : PySem.W.Frag} {es : List Expr} {kk : Nat} {tp : Pos} {k : Int} (a e it : Addr) :
    Turn P w K (.Tuple es kk tp) (ItE (fun H us => SqL K H a us) k) [e, it] e (fun i h => (∃ old, IsEnum h e it (k + (i : Int)) old) ∧ h.IsListIter it a i ∧ (e ≠ it ∧ a ≠ it ∧ e ≠ a)) where
  mem := List.mem_cons_self
  obj := fun i h st b hb => by
    obtain ⟨⟨old, q1⟩, ⟨o, q2, _, q3⟩, _⟩ := st
    rcases List.mem_cons.mp hb with rfl | hb
    · exact ⟨_, q1, fun v z => nomatch z⟩
    · rw [List.mem_singleton.mp hb]
      exact ⟨o, q2, fun v z => by rw [q3] at z; cases z⟩
  keep := fun i h h' st kp => ⟨let ⟨old, q⟩ := st.1; ⟨old, kp e List.mem_cons_self _ q⟩, st.2.1.at fun o q => kp it (List.mem_cons_of_mem _ List.mem_cons_self) o q, st.2.2⟩
  item := by
    intro X hP hw hK hc i pins s σ H E I hf st hg
    subst hP hw hK
    obtain ⟨⟨old, q1⟩, hit, n1, n2, n3⟩ := st
    obtain ⟨us, u, hq, hu⟩ := hg
    obtain ⟨its, rv, p, hz⟩ := I.list hq
    obtain ⟨y, hy, ry⟩ := rv.get hu
    have le : e < s.heap.objs.size := Heap.lt_size q1
    have li : it < s.heap.objs.size := let ⟨_, q, _⟩ := hit; Heap.lt_size q
    have hp : s.heap.IsList a its.toArray := p.isList
    have hlt : i < its.toArray.size := by
      have := (List.getElem?_eq_some_iff.mp hy).1
      simpa using this
    refine wpAny_pyNext_enum_itemC (Draws.list (A := X.A.in1) (I.ok.hd hc) it a n2 its.toArray) q1 ⟨hit, hp⟩ hlt n1 (by simp [n1, n3]) fun x h' tk hx ho hs hT hsz hk => ?_
    have hxy : x = y := by
      have hx : its.toArray[i]? = some x := hx
      rw [List.getElem?_toArray, hy] at hx
      cases hx; rfl
    subst hxy
    refine ⟨_, rfl, wpAny_letOwnedTupleGo_enum (s := { s with heap := h', toks := tk + 1 }) ho fun h2 he2 sb => ?_⟩
    have t2 : h2.get? s.heap.objs.size = some { cls := .type "tuple", data := .seq #[.int (k + (i : Int)) tk, x] } := (sb.2 _ (Nat.ne_of_gt le)).trans hT
    have nw : ObjOk X.prog X.w (upd H s.heap.objs.size (.tup [.int (k + (i : Int)), u])) h2 s.heap.objs.size (.tup [.int (k + (i : Int)), u]) :=
      ⟨(by decide : 2 ≤ sizeLine), [.int (k + (i : Int)) tk, x], .cons ⟨_, rfl⟩ (.cons ry .nil), ⟨_, t2, rfl, _, rfl⟩⟩
    have J : Inv X pins σ (upd H s.heap.objs.size (.tup [.int (k + (i : Int)), u])) { s with heap := h2, toks := tk + 1 } :=
      I.turnedNew (t' := tk + 1) (ch := [e, it]) (fun b ob hb q => (sb.2 b fun z => hb (by simp [z])).trans (hk b ob (fun z => hb (by simp [z])) (fun z => hb (by simp [z])) q)) hf (Nat.le_refl _) nw
    refine ⟨.ref s.heap.objs.size, _, J, rfl, ⟨_, u, rfl, I.hok.fresh (Nat.le_refl _), rfl, fun vs hv => by rw [I.list_inj hv hq]; exact hu⟩, ⟨⟨x, ?_⟩, hs.1.at fun o q => (sb.2 it n1.symm).trans q, n1, n2, n3⟩, fun b hb => ?_⟩
    · rw [show k + ((i + 1 : Nat) : Int) = k + (i : Int) + 1 by omega]; exact he2
    · have lb : b < s.heap.objs.size := by
        rcases List.mem_cons.mp hb with rfl | hb
        · exact le
        · rw [List.mem_singleton.mp hb]; exact li
      rw [upd_ne (Nat.ne_of_lt lb)]; exact (hf b hb).1
  done := by
    intro X hP hw hK hc i pins s σ H E I hf st hg
    subst hP hw hK
    obtain ⟨⟨old, q1⟩, hit, n1, n2, n3⟩ := st
    obtain ⟨us, hq, hu⟩ := hg
    obtain ⟨its, rv, p, hz⟩ := I.list hq
    have hp : s.heap.IsList a its.toArray := p.isList
    obtain ⟨f0, f1, f2, f3, f4, f5⟩ := hf it (List.mem_cons_of_mem _ List.mem_cons_self)
    have hl := rv.length
    exact en_endL (I.ok.hd hc) q1 hit hp (by simp; omega) fun h' eb => ⟨rfl, I.turned (t' := s.toks) (fun b o hb q => eb b o hb q) f0 f1 f3 f4 f5⟩
  self := fun A i s Q E st h => let ⟨⟨_, q⟩, _⟩ := st; wpAny_pyIter_enum q h

theorem en_endT {P : Program} {w : World} {A : Around} {E : Value → Shared → Prop} {s : Shared} {e it a : Addr} {i : Nat} {c : Int} {its : Array Value} {old : Value} {Q : Option Value → Shared → Prop} (hh : A.handled = none) (he : IsEnum s.heap e it c old) (hit : s.heap.IsTupleIter it a i) (hl : s.heap.IsTuple a its) (hx : its[i]? = none)
    (hQ : ∀ h', Heap.ExtBut it s.heap h' → Q none { s with heap := h' }) : wpAny (model P w) A (pyNext (.ref e)) Q E s := by
  have hT : s.TypeIs (.ref e) "enumerate" := ⟨_, he, rfl⟩
  unfold pyNext
  refine wpAny_bind (wpAny_attempt (wpAny_callSpecial?_slot (name := Str.ofString "__next__") hT F.slot_enumerate_next (wpAny_call_entry F.slot_enumerate_next hT F.entry_enumerate_next ?_ (F.args_enumerate_next_1 _))))
  show wpAny _ _ (field (.ref e) 2 >>= _) _ _ _
  refine wpAny_bind (wpAny_field he rfl (x := .ref it) rfl (wpAny_bind (wpAny_nextOf_tuple_end (A := A.in1) hh hit hl hx fun h' x he' hx' => ?_)))
  obtain ⟨o, ho, hc⟩ := hx'
  exact wpAny_bind (wpAny_isInstance (T := "StopIteration") (b := true) ⟨o, ho, hc⟩ isSubtype_stop (wpAny_pure (hQ _ he')))

theorem turn_enT {P : Program} {w : World} {K : PySem.W.Frag} {es : List Expr} {kk : Nat} {tp : Pos} {k : Int} (a e it : Addr) :
    Turn P w K (.Tuple es kk tp) (ItE (fun H us => SqT K H a us) k) [e, it] e (fun i h => (∃ old, IsEnum h e it (k + (i : Int)) old) ∧ h.IsTupleIter it a i ∧ (e ≠ it ∧ a ≠ it ∧ e ≠ a)) where
  mem := List.mem_cons_self
  obj := fun i h st b hb => by
    obtain ⟨⟨old, q1⟩, ⟨o, q2, _, q3⟩, _⟩ := st
    rcases List.mem_cons.mp hb with rfl | hb
    · exact ⟨_, q1, fun v z => nomatch z⟩
    · rw [List.mem_singleton.mp hb]
      exact ⟨o, q2, fun v z => by rw [q3] at z; cases z⟩
  keep := fun i h h' st kp => ⟨let ⟨old, q⟩ := st.1; ⟨old, kp e List.mem_cons_self _ q⟩, st.2.1.at fun o q => kp it (List.mem_cons_of_mem _ List.mem_cons_self) o q, st.2.2⟩
  item := by
    intro X hP hw hK hc i pins s σ H E I hf st hg
    subst hP hw hK
    obtain ⟨⟨old, q1⟩, hit, n1, n2, n3⟩ := st
    obtain ⟨us, u, hq, hu⟩ := hg
    obtain ⟨its, rv, p, hz⟩ := I.tuple hq
    obtain ⟨y, hy, ry⟩ := rv.get hu
    have le : e < s.heap.objs.size := Heap.lt_size q1
    have li : it < s.heap.objs.size := let ⟨_, q, _⟩ := hit; Heap.lt_size q
    have hp : s.heap.IsTuple a its.toArray := p
    have hlt : i < its.toArray.size := by
      have := (List.getElem?_eq_some_iff.mp hy).1
      simpa using this
    refine wpAny_pyNext_enum_itemC (Draws.tuple (A := X.A.in1) (I.ok.hd hc) it a n2 its.toArray) q1 ⟨hit, hp⟩ hlt n1 (by simp [n1, n3]) fun x h' tk hx ho hs hT hsz hk => ?_
    have hxy : x = y := by
      have hx : its.toArray[i]? = some x := hx
      rw [List.getElem?_toArray, hy] at hx
      cases hx; rfl
    subst hxy
    refine ⟨_, rfl, wpAny_letOwnedTupleGo_enum (s := { s with heap := h', toks := tk + 1 }) ho fun h2 he2 sb => ?_⟩
    have t2 : h2.get? s.heap.objs.size = some { cls := .type "tuple", data := .seq #[.int (k + (i : Int)) tk, x] } := (sb.2 _ (Nat.ne_of_gt le)).trans hT
    have nw : ObjOk X.prog X.w (upd H s.heap.objs.size (.tup [.int (k + (i : Int)), u])) h2 s.heap.objs.size (.tup [.int (k + (i : Int)), u]) :=
      ⟨(by decide : 2 ≤ sizeLine), [.int (k + (i : Int)) tk, x], .cons ⟨_, rfl⟩ (.cons ry .nil), ⟨_, t2, rfl, _, rfl⟩⟩
    have J : Inv X pins σ (upd H s.heap.objs.size (.tup [.int (k + (i : Int)), u])) { s with heap := h2, toks := tk + 1 } :=
      I.turnedNew (t' := tk + 1) (ch := [e, it]) (fun b ob hb q => (sb.2 b fun z => hb (by simp [z])).trans (hk b ob (fun z => hb (by simp [z])) (fun z => hb (by simp [z])) q)) hf (Nat.le_refl _) nw
    refine ⟨.ref s.heap.objs.size, _, J, rfl, ⟨_, u, rfl, I.hok.fresh (Nat.le_refl _), rfl, fun vs hv => by rw [I.tuple_inj hv hq]; exact hu⟩, ⟨⟨x, ?_⟩, hs.1.at fun o q => (sb.2 it n1.symm).trans q, n1, n2, n3⟩, fun b hb => ?_⟩
    · rw [show k + ((i + 1 : Nat) : Int) = k + (i : Int) + 1 by omega]; exact he2
    · have lb : b < s.heap.objs.size := by
        rcases List.mem_cons.mp hb with rfl | hb
        · exact le
        · rw [List.mem_singleton.mp hb]; exact li
      rw [upd_ne (Nat.ne_of_lt lb)]; exact (hf b hb).1
  done := by
    intro X hP hw hK hc i pins s σ H E I hf st hg
    subst hP hw hK
    obtain ⟨⟨old, q1⟩, hit, n1, n2, n3⟩ := st
    obtain ⟨us, hq, hu⟩ := hg
    obtain ⟨its, rv, p, hz⟩ := I.tuple hq
    have hp : s.heap.IsTuple a its.toArray := p
    obtain ⟨f0, f1, f2, f3, f4, f5⟩ := hf it (List.mem_cons_of_mem _ List.mem_cons_self)
    have hl := rv.length
    exact en_endT (I.ok.hd hc) q1 hit hp (by simp; omega) fun h' eb => ⟨rfl, I.turned (t' := s.toks) (fun b o hb q => eb b o hb q) f0 f1 f3 f4 f5⟩
  self := fun A i s Q E st h => let ⟨⟨_, q⟩, _⟩ := st; wpAny_pyIter_enum q h

set_option maxHeartbeats 1000000 in
theorem enum_new {v : Value} {o : Obj} {C : Heap → Prop} (B : Begins v o C) : Meets (Builtin.«enumerate.__new__» ⟨[.type "enumerate", v], []⟩) (fun _ R s => C s.heap ∧
    R (.ok (.ret (.ref (s.heap.push o).objs.size))) { s with heap := (s.heap.push o).push { cls := .type "enumerate", data := .fields #[.none, .bool false, .ref s.heap.objs.size, rawInt 0, .none, .none] } }) := .of_wp fun prog w A R s h => by
  obtain ⟨hp, g, d, tk, os⟩ := s; obtain ⟨h1, h⟩ := h
  have hsub := sub_enumerate
  have q1 : ∀ {A' : Around} {E : Value → Shared → Prop} {Q : Value → Shared → Prop}, Q (.ref hp.objs.size) ⟨hp.push o, g, d, tk, os⟩ → wpAny (model prog w) A' (pyIter v) Q E ⟨hp, g, d, tk, os⟩ := fun q => B.iter prog w _ _ ⟨hp, g, d, tk, os⟩ _ h1 q
  wp_walk using q1
  refine wpAny_stack_any fun st => wpAny_pure ?_
  split
  · rename_i c _ _ _ _ _
    cases (c == Value.type "enumerate")
    · wp_walk using q1; exact ⟨_, rfl, h⟩
    · wp_walk using q1; exact ⟨_, rfl, h⟩
  · wp_walk using q1; exact ⟨_, rfl, h⟩
theorem call_en {P : Program} {w : World} {A : Around} {E : Value → Shared → Prop} {s : Shared} {v : Value} {o : Obj} {C : Heap → Prop} {Q : Value → Shared → Prop} (B : Begins v o C) (h1 : C s.heap)
    (h : ∀ h', IsEnum h' (s.heap.objs.size + 1) s.heap.objs.size 0 .none → h'.get? s.heap.objs.size = some o → (∀ b o, s.heap.get? b = some o → h'.get? b = some o) → Q (.ref (s.heap.objs.size + 1)) { s with heap := h' }) :
    wpAny (model P w) A (call (.type "enumerate") [v]) Q E s := by
  refine callType_new F.called_enumerate (by decide) (F.typeCall_enumerate_1 _) (F.newCall_enumerate_1 _) (fun obj => F.args_object_init_2 obj _) F.entry_enumerate_new (enum_new B) ⟨h1, ?_⟩
  have hz : (s.heap.push o).objs.size = s.heap.objs.size + 1 := Heap.size_push ..
  show _ ∧ _
  rw [hz]
  have he : IsEnum ((s.heap.push o).push { cls := .type "enumerate", data := .fields #[.none, .bool false, .ref s.heap.objs.size, rawInt 0, .none, .none] }) (s.heap.objs.size + 1) s.heap.objs.size 0 .none := by
    have z := Heap.get?_push_size (s.heap.push o) (o := { cls := .type "enumerate", data := .fields #[.none, .bool false, .ref s.heap.objs.size, rawInt 0, .none, .none] }) rfl
    rw [hz] at z; exact z
  exact ⟨⟨_, he, rfl⟩, h _ he (Heap.get?_push_of_some _ (Heap.get?_push_size _ B.free)) fun b o x => Heap.get?_push_of_some _ (Heap.get?_push_of_some _ x)⟩
section
variable {c : Cc} {O O' : Ow} {H H' : Hp} {ρ ρ' : En} {τ τ' : List (V × R)} {σ σ' : St} {v : V} {ℓ ℓ' : Lab} {ct : Ct} {X : Cx} {ek : EK} {fl : Bool}
variable {a b e d0 : Expr} {rest : List Expr} {Ta Tb Tc Te : TEp} {TA' TB' TT' : TTp} {pos : Pos} {T U : TSp} {TA TB : TAp} {es : List Expr}
def enD : Int → List D → List D
  | _, [] => []
  | k, d :: l => .tup [.int k, d] :: enD (k + 1) l
theorem enD_len : ∀ {k : Int} {l : List D}, (enD k l).length = l.length
  | _, [] => rfl
  | k, d :: l => by unfold enD; rw [List.length_cons, List.length_cons, enD_len]
theorem enD_get : ∀ {k : Int} {l : List D} {i : Nat} {d : D}, (enD k l)[i]? = some d → ∃ d', l[i]? = some d' ∧ d = .tup [.int (k + (i : Int)), d']
  | _, [], _, _, h => by unfold enD at h; simp at h
  | k, x :: l, 0, d, h => by unfold enD at h; simp at h; exact ⟨x, rfl, by rw [← h]; simp⟩
  | k, x :: l, i + 1, d, h => by
    unfold enD at h
    obtain ⟨d', e1, e2⟩ := enD_get (k := k + 1) (l := l) (i := i) (by simpa using h)
    exact ⟨d', by simpa using e1, by rw [e2, show k + 1 + (i : Int) = k + ((i + 1 : Nat) : Int) by omega]⟩
theorem en_itG {rd : Hp → List V → Prop} {k : Int} {l : List D} {p : Addr} {d0 : D} (hrd : ∀ (H : Hp) (O : Ow), Rp c.K H (c.av O) d0 (.ref p) → ∃ vs, rd H vs ∧ Rps c.K H (c.av O) l vs) : ItOk c (ItE rd k) (enD k l) [(.ref p, .va (Fz d0))] := by
  intro σ H ρ τ0 τ i S
  obtain ⟨O, S⟩ := S
  obtain ⟨vs, hr, rr⟩ := hrd H O S.tm.app.1
  refine ⟨fun d hd => ?_, fun hl => ⟨vs, hr, by rw [rr.length, ← enD_len (k := k)]; exact hl⟩⟩
  obtain ⟨d', e1, e2⟩ := enD_get hd
  obtain ⟨u, hu, ru⟩ := rr.get e1
  refine ⟨⟨vs, u, hr, hu⟩, fun x H' y => ?_⟩
  obtain ⟨t, u', ex, hn, eH, y⟩ := y
  have y := y vs hr
  rw [hu] at y; cases y
  subst ex eH e2
  have S2 := S.new (o := .tup [.int (k + (i : Int)), u]) (m := none) hn (fun z => absurd rfl z)
  refine ⟨_, S2, ?_⟩
  unfold Rp
  exact ⟨t, _, rfl, SqT.of upd_same, .cons (Rp.ofInt _) (.one ((Ext.new (o := .tup [.int (k + (i : Int)), u]) (m := none) S hn).rp ru))⟩
def enK (K : List D → En → Prop) (ρ : En) (rs : List R) : Prop := match rs with
  | [r] => match fzC ρ r with
    | some (.lst l, ρ1) => K (enD 0 l) ρ1
    | some (.tup l, ρ1) => K (enD 0 l) ρ1
    | _ => False
  | _ => False
def iEnum (TA : TAp) : TIp' := fun ρ R E => TA ρ (fun rs ρ1 => enK R ρ1 rs) E
theorem enL_pi {tgs : List Expr} {kk : Nat} {tp : Pos} {pins : List (Addr × Obj)} {s : Shared} {p : Addr} {xs : List V} {RR : It → Hp → Prop} (J : Inv X pins σ H s) (h : SqL X.K H p xs) (q : RR (ItE (fun H us => SqL X.K H p us) 0) H) : wpAny (model X.prog X.w) X.A (call (.type "enumerate") [.ref p]) (fun v s2 => wpAny (model X.prog X.w) X.A (pyIter v) (PIE X pins σ (.Tuple tgs kk tp) RR) X.xe s2) X.xe s := by
  obtain ⟨us, _, pl, _⟩ := J.list h
  have hl := pl.isList
  refine call_en (begins_list p us.toArray) hl fun h' he hit hk => wpAny_pyIter_enum he ?_
  have lp : p < s.heap.objs.size := let ⟨_, z, _⟩ := hl; Heap.lt_size z
  refine ⟨s.heap.objs.size + 1, [s.heap.objs.size + 1, s.heap.objs.size], _, _, H, rfl, J.kept (t' := s.toks) hk, turn_enL p (s.heap.objs.size + 1) s.heap.objs.size, ⟨⟨.none, he⟩, ⟨_, hit, rfl, rfl⟩, Nat.succ_ne_self _, Nat.ne_of_lt lp, Nat.ne_of_gt (Nat.lt_succ_of_lt lp)⟩, fun b hb => ?_, q⟩
  have hle : s.heap.objs.size ≤ b := by
    rcases List.mem_cons.mp hb with rfl | hb
    · omega
    · rw [List.mem_singleton.mp hb]; exact Nat.le_refl _
  exact J.fpOk hle (J.hok.fresh hle)
theorem enT_pi {tgs : List Expr} {kk : Nat} {tp : Pos} {pins : List (Addr × Obj)} {s : Shared} {p : Addr} {xs : List V} {RR : It → Hp → Prop} (J : Inv X pins σ H s) (h : SqT X.K H p xs) (q : RR (ItE (fun H us => SqT X.K H p us) 0) H) : wpAny (model X.prog X.w) X.A (call (.type "enumerate") [.ref p]) (fun v s2 => wpAny (model X.prog X.w) X.A (pyIter v) (PIE X pins σ (.Tuple tgs kk tp) RR) X.xe s2) X.xe s := by
  obtain ⟨us, _, pl, _⟩ := J.tuple h
  have hl : s.heap.IsTuple p us.toArray := pl
  refine call_en (begins_tuple p us.toArray) hl fun h' he hit hk => wpAny_pyIter_enum he ?_
  have lp : p < s.heap.objs.size := let ⟨_, z, _⟩ := hl; Heap.lt_size z
  refine ⟨s.heap.objs.size + 1, [s.heap.objs.size + 1, s.heap.objs.size], _, _, H, rfl, J.kept (t' := s.toks) hk, turn_enT p (s.heap.objs.size + 1) s.heap.objs.size, ⟨⟨.none, he⟩, ⟨_, hit, rfl, rfl⟩, Nat.succ_ne_self _, Nat.ne_of_lt lp, Nat.ne_of_gt (Nat.lt_succ_of_lt lp)⟩, fun b hb => ?_, q⟩
  have hle : s.heap.objs.size ≤ b := by
    rcases List.mem_cons.mp hb with rfl | hb
    · omega
    · rw [List.mem_singleton.mp hb]; exact Nat.le_refl _
  exact J.fpOk hle (J.hok.fresh hle)
theorem i_enum {tgs : List Expr} {kk : Nat} {tp p : Pos} (hm : X.mg "enumerate" = none) (ha : PAp c ek fl X [e] TA) (hK : X.K = c.K := by rfl) (hg : Gl X "enumerate" := by rfl) (hs : starEach [e] X.env = [(false, eval e X.env)] := by rfl) : PIp' c ek fl X (.Tuple tgs kk tp) (.Call (.Name "enumerate" p) [e] [] pos) (iEnum TA) := by
  refine ⟨fun pins s σ H Q I h => ?_⟩
  obtain ⟨ρ, τ, R0, E0, S, hT, q, q5⟩ := h
  refine Call_ (ld_blt I hg hm boot_enumerate (PyProof.Rows.callWith_type1 (thn (ha.run pos pins s σ H (fun vs H1 => ∃ v l ρ1, vs = [v] ∧ (Sim c ρ1 ((v, .va (Fz (.lst l))) :: τ) σ H1 ∨ Sim c ρ1 ((v, .va (Fz (.tup l))) :: τ) σ H1) ∧ R0 (enD 0 l) ρ1) I ⟨ρ, τ, _, _, S, hT, fun rs ρ' vs H' h1 hl S1 => ?_, q5⟩) fun us s1 ⟨vs, H1, I1, rvs, x, l, ρ1, ex, hS, h1⟩ => ?_) hs rfl))
  · unfold enK at h1
    split at h1
    · match vs, hl with
      | [v], _ =>
        obtain ⟨O, S1⟩ := S1
        split at h1
        · rename_i l ρ1 e1
          obtain ⟨O2, S2, rp, _⟩ := fzC_ok S1 e1
          exact ⟨v, l, ρ1, rfl, .inl ⟨O2, S2.push rp⟩, h1⟩
        · rename_i l ρ1 e1
          obtain ⟨O2, S2, rp, _⟩ := fzC_ok S1 e1
          exact ⟨v, l, ρ1, rfl, .inr ⟨O2, S2.push rp⟩, h1⟩
        · exact h1.elim
    · exact h1.elim
  subst ex
  cases rvs with
  | cons rv rr =>
  cases rr
  · rcases hS with ⟨O, S1⟩ | ⟨O, S1⟩
    · have rp : Rp c.K H1 (c.av O) (.lst l) x := S1.tm.1
      obtain ⟨a, vs, rfl, ha, rr⟩ := rp.top.lst
      cases rv
      refine enL_pi I1 (SqL.of ha) (q (enD 0 l) ρ1 _ _ [(.ref a, .va (Fz (.lst l)))] h1 (en_itG fun H O rp => ?_) (fun v r m => by rcases List.mem_cons.mp m with e | m; cases e; exact ⟨_, rfl⟩; cases m) ⟨O, S1⟩)
      obtain ⟨a', vs, e, ha, rr⟩ := rp.top.lst
      cases e
      exact ⟨vs, SqL.of ha, rr⟩
    · have rp : Rp c.K H1 (c.av O) (.tup l) x := S1.tm.1
      obtain ⟨a, vs, rfl, ha, rr⟩ := rp.top.tup
      cases rv
      rw [← hK] at ha
      refine enT_pi I1 ha (q (enD 0 l) ρ1 _ _ [(.ref a, .va (Fz (.tup l)))] h1 (en_itG fun H O rp => ?_) (fun v r m => by rcases List.mem_cons.mp m with e | m; cases e; exact ⟨_, rfl⟩; cases m) ⟨O, S1⟩)
      obtain ⟨a', vs, e, ha, rr⟩ := rp.top.tup
      cases e
      exact ⟨vs, by rw [hK]; exact ha, rr⟩
def walkE (K : List D → En → Prop) (ρ : En) : D → Prop
  | .lst l => K (enD 0 l) ρ
  | .tup l => K (enD 0 l) ρ
  | _ => False
theorem e_iEnum {K : List D → En → Prop} {Ee : Exn → En → Prop} : iEnum TA ρ K Ee = TA ρ (fun rs ρ' => enK K ρ' rs) Ee := rfl
theorem enK_one {K : List D → En → Prop} {r : R} : enK K ρ [r] = oD (fzC ρ r) fun p => walkE K p.2 p.1 := by
  unfold enK
  show (match fzC ρ r with | some (.lst l, ρ1) => _ | some (.tup l, ρ1) => _ | _ => False) = _
  cases fzC ρ r with
  | none => rfl
  | some p => obtain ⟨d, ρ1⟩ := p; cases d <;> rfl
theorem walkE_lst {K : List D → En → Prop} {l : List D} : walkE K ρ (.lst l) = K (enD 0 l) ρ := rfl
theorem walkE_tup {K : List D → En → Prop} {l : List D} : walkE K ρ (.tup l) = K (enD 0 l) ρ := rfl
/-- a loop over the pairs, by what stays true -/
theorem for_en {α : Type} {f : α → D} {g : Tg} {T : TSp} {E : Ep} (I : Nat → List α → En → Prop) (step : ∀ (k : Nat) (a : α) (l : List α) (ρ : En) (K : En → Prop), I k (a :: l) ρ → (∀ ρ', I (k + 1) l ρ' → K ρ') → oD (tgK g (.tup [.int (k : Nat), f a]) ρ) fun ρ2 => T ρ2 (E.lp K)) (fin : ∀ k ρ, I k [] ρ → E.nx ρ) :
    ∀ (l : List α) (k : Nat) (ρ : En), I k l ρ → forK g T (enD (k : Nat) (l.map f)) ρ E
  | [], k, ρ, h => by rw [List.map_nil]; unfold enD; rw [for_nil]; exact fin k ρ h
  | a :: l, k, ρ, h => by
    rw [List.map_cons]
    unfold enD
    rw [for_cons]
    refine step k a l ρ _ h fun ρ' h' => ?_
    have := for_en I step fin l (k + 1) ρ' h'
    rwa [show ((k + 1 : Nat) : Int) = (k : Int) + 1 by omega] at this
end
end Pm

namespace Pm
open PySem PySem.Spec PyProof.Rows L2
section
variable {c : Cc} {O O' : Ow} {H H' : Hp} {ρ ρ' : En} {τ τ' : List (V × R)} {σ σ' : St} {v : V} {ℓ ℓ' : Lab} {ct : Ct} {X : Cx} {ek : EK} {fl : Bool}
variable {a b e d0 : Expr} {rest : List Expr} {Ta Tb Tc Te : TEp} {TA' TB' TT' : TTp} {pos : Pos} {T U : TSp} {TA TB : TAp} {es : List Expr}
/-! ### methods of built-in types that change nothing -/
abbrev MpF := D → List D → (Ct → Prop) → Prop
def MpOk (c : Cc) (f : MpF) (r : V → List V → Hp → VK → Prop) : Prop := ∀ (σ : St) (ρ : En) (τ : List (V × R)) (O : Ow) (H : Hp) (v : V) (ws : List V) (d : D) (ds : List D) (Q : VK) (K0 : Ct → Prop), Sim0 c H O ρ τ σ → RpT c.K H (c.av O) d v → Rps c.K H (c.av O) ds ws → f d ds K0 →
  (∀ ct w H', K0 ct → Sim c ρ ((w, .va ct) :: τ) σ H' → Q w H') → r v ws H Q
def tyD : String → D → Bool
  | "list", .lst _ => true
  | "str", .str _ => true
  | _, _ => false
theorem tyD_ok {K : PySem.W.Frag} {A : Av} {T : String} {d : D} (h : RpT K H A d v) (e : tyD T d = true) : tyV K T v H := by
  unfold tyD at e
  split at e
  · obtain ⟨p, vs, rfl, q, r⟩ := h.lst
    exact .inl ⟨rfl, vs, SqL.of q⟩
  · rw [h.str]; rfl
  · cases e
def tyK (T : String) (o : Option D) (k : Prop) : Prop := match o with
  | some d => tyD T d = true ∧ k
  | none => False
theorem tyK.of {T : String} {o : Option D} {k : Prop} (h : tyK T o k) : ∃ d, o = some d ∧ tyD T d = true ∧ k := by
  cases o with
  | none => exact h.elim
  | some d => exact ⟨d, rfl, h.1, h.2⟩
def tMth (T : String) (f : MpF) (Ta : TEp) (TA : TAp) : TEp := fun ρ R E => Ta ρ (fun r ρ1 => nA r <| tyK T (vw ρ1 r) <| TA ρ1 (fun rs ρ2 => fzK ρ2 rs fun ds ρ3 => oD (vw ρ3 r) fun d => f d ds fun ct => R (.va ct) ρ3) E) E
section
variable {name : Str} {apos : Pos} {id Ty : String} {r : V → List V → Hp → VK → Prop} {f : MpF}
theorem p_mth (pa : PlainAttrs Ty) (slot : Slot Ty name id) (hty : typeOf (.builtin id) = pure (.type "method_descriptor")) (hm : MtR X id r) (ok : MpOk c f r) (ho : PEp c ek fl X a Ta) (ha : PAp c ek fl X (e :: es) TA) (hK : X.K = c.K := by rfl)
    (hbase : attributeBase a name X.env (eval a X.env) = eval a X.env := by rfl)
    (hfew : ((backTo pos (starEach (e :: es) X.env)).all (fun x => !x.1) && (backToKw pos (keywordEach [] X.env)).all (fun x => x.1.isSome) && decide ((e :: es).length + ([] : List Keyword).length + (if ([] : List Keyword).isEmpty then 0 else 1) < 30)) = true := by rfl)
    (hline : (apos.endLine == pos.line) = true := by rfl) (hs : starEach (e :: es) X.env = (false, eval e X.env) :: starEach es X.env := by rfl) (hplain : (backTo pos (starEach es X.env)).any (·.1) = false := by rfl) :
    PEp c ek fl X (.Call (.Attribute a name apos) (e :: es) [] pos) (tMth Ty f Ta TA) := by
  refine ⟨fun pins s σ H Q I h => ?_⟩
  obtain ⟨ρ, τ, R0, E0, S, hT, hQ, hE⟩ := h
  refine (pe_bm pa slot hty hm ho ha hbase hfew hline hs hplain).run pins s σ H Q I ⟨ρ, τ, _, E0, S, hT, fun r1 ρ1 v H1 h1 S1 => ?_, hE⟩
  obtain ⟨h1, n⟩ := h1.of
  obtain ⟨d1, e1, t1, h1⟩ := h1.of
  refine ⟨?_, ρ1, _, _, E0, S1, h1, fun rs ρ2 ws H2 h2 hl S2 => ?_, hE.1, fun z => n (hE.2 z)⟩
  · obtain ⟨O, S1⟩ := S1
    rw [hK]
    exact tyD_ok (S1.vw e1) t1
  · obtain ⟨ds, ρ3, e3, h3⟩ := h2.of
    obtain ⟨O2, S2⟩ := S2
    obtain ⟨O3, S3, r3, _⟩ := fzL_ok hl S2 e3
    obtain ⟨d, e4, h4⟩ := h3.of
    exact ok σ ρ3 τ O3 H2 v ws d ds Q _ S3.pop (S3.vw e4) r3 h4 fun ct w H' k1 S' => hQ _ _ _ _ k1 S'
def tMth0 (T : String) (f : MpF) (Ta : TEp) : TEp := fun ρ R E => Ta ρ (fun r ρ1 => oD (vw ρ1 r) fun d => tyD T d = true ∧ f d [] fun ct => R (.va ct) ρ1) E
theorem p_mth0 (pa : PlainAttrs Ty) (slot : Slot Ty name id) (hty : typeOf (.builtin id) = pure (.type "method_descriptor")) (hm : MtR X id r) (ok : MpOk c f r) (ho : PEp c ek fl X a Ta) (hK : X.K = c.K := by rfl)
    (hbase : attributeBase a name X.env (eval a X.env) = eval a X.env := by rfl) (hline : (apos.endLine == pos.line) = true := by rfl) : PEp c ek fl X (.Call (.Attribute a name apos) [] [] pos) (tMth0 Ty f Ta) := by
  refine ⟨fun pins s σ H Q I h => ?_⟩
  obtain ⟨ρ, τ, R0, E0, S, hT, hQ, hE⟩ := h
  refine (pe_bm0 pa slot hty hm ho hbase hline).run pins s σ H Q I ⟨ρ, τ, _, E0, S, hT, fun r1 ρ1 v H1 h1 S1 => ?_, hE⟩
  obtain ⟨d, e1, t1, h1⟩ := h1.of
  obtain ⟨O, S1⟩ := S1
  exact ⟨by rw [hK]; exact tyD_ok (S1.vw e1) t1, ok σ ρ1 τ O H1 v [] d [] Q _ S1.pop (S1.vw e1) .nil h1 fun ct w H' k1 S' => hQ _ _ _ _ k1 S'⟩
end
def strs? : List D → Option (List Str)
  | [] => some []
  | .str i :: l => (strs? l).map (i :: ·)
  | _ :: _ => none
theorem strs_map : ∀ ns : List Str, strs? (ns.map .str) = some ns
  | [] => rfl
  | n :: ns => by show (strs? (ns.map .str)).map (n :: ·) = _; rw [strs_map ns]; rfl
theorem strs_of {K : PySem.W.Frag} {A : Av} : ∀ {l : List D} {vs : List V} {ns : List Str}, Rps K H A l vs → strs? l = some ns → vs = ns.map V.str
  | [], vs, ns, h, e => by unfold Rps at h; subst h; cases e; rfl
  | d :: l, vs, ns, h, e => by
    obtain ⟨v, r, rfl, h1, h2⟩ := h
    cases d with
    | str i =>
      unfold strs? at e
      cases q : strs? l with
      | none => rw [q] at e; cases e
      | some ms =>
        rw [q] at e; cases e
        rw [h1.top.str, strs_of h2 q]; rfl
    | _ => unfold strs? at e; cases e
/-- l.index(x), texts -/
def fIndex : MpF := fun d ds Q => match d, ds with
  | .lst l, [.str x] => oD (strs? l) fun xs => ∃ j, xs[j]? = some x ∧ (∀ m, m < j → xs[m]? ≠ some x) ∧ Q (Fz (.int (j : Nat)))
  | _, _ => False
theorem index_ok (hK : X.K = c.K) : MpOk c fIndex (rIndex X.K) := by
  intro σ ρ τ O H v ws d ds Q K0 S hv rd h hQ
  unfold fIndex at h
  split at h
  · rename_i l x
    obtain ⟨w, r, rfl, r1, r2⟩ := rd
    unfold Rps at r2; subst r2
    obtain ⟨xs, e1, j, e2, e3, h⟩ := h.of
    obtain ⟨p, vs, rfl, q, rl⟩ := hv.lst
    have ev := strs_of rl e1
    subst ev
    have hw : w = .str x := r1.top.str
    subst hw
    refine ⟨p, _, .str x, j, .str x, rfl, rfl, SqL.of q, rfl, ?_, by rw [List.getElem?_map, e2]; rfl, by show (x == x) = true; simp, fun m z' hm hz => ?_, hQ _ _ _ h (Sim.pushFz ⟨O, S⟩ fun A => Rp.ofInt _)⟩
    · rw [List.all_map, List.all_eq_true]; intro y _; rfl
    · rw [List.getElem?_map] at hz
      obtain ⟨y, y1, y2⟩ := Option.map_eq_some_iff.mp hz
      subst y2
      have := e3 m hm
      show (y == x) = false
      by_cases hyx : y = x
      · subst hyx; exact absurd y1 this
      · simp [hyx]
  · exact h.elim
/-! their equations -/
variable {Rr : R → En → Prop} {Ee : Exn → En → Prop} {Ty : String} {f : MpF} {k : Prop}
theorem e_mth : tMth Ty f Ta TA ρ Rr Ee = Ta ρ (fun r ρ1 => nA r (tyK Ty (vw ρ1 r) (TA ρ1 (fun rs ρ2 => fzK ρ2 rs fun ds ρ3 => oD (vw ρ3 r) fun d => f d ds fun ct => Rr (.va ct) ρ3) Ee))) Ee := rfl
theorem e_mth0 : tMth0 Ty f Ta ρ Rr Ee = Ta ρ (fun r ρ1 => oD (vw ρ1 r) fun d => tyD Ty d = true ∧ f d [] fun ct => Rr (.va ct) ρ1) Ee := rfl
theorem tyK_lst {l : List D} : tyK "list" (some (.lst l)) k = k := propext ⟨fun h => h.2, fun h => ⟨rfl, h⟩⟩
theorem tyK_str {x : Str} : tyK "str" (some (.str x)) k = k := propext ⟨fun h => h.2, fun h => ⟨rfl, h⟩⟩
theorem tyD_lst {l : List D} : tyD "list" (.lst l) = true := rfl
theorem tyD_str {x : Str} : tyD "str" (.str x) = true := rfl
theorem f_index {l : List D} {x : Str} {Q : Ct → Prop} : fIndex (.lst l) [.str x] Q = oD (strs? l) fun xs => ∃ j, xs[j]? = some x ∧ (∀ m, m < j → xs[m]? ≠ some x) ∧ Q (Fz (.int (j : Nat))) := rfl
end
end Pm

namespace Pm
open PySem PySem.Spec PyProof.Rows L2
section
variable {c : Cc} {O O' : Ow} {H H' : Hp} {ρ ρ' : En} {τ τ' : List (V × R)} {σ σ' : St} {v : V} {ℓ ℓ' : Lab} {ct : Ct} {X : Cx} {ek : EK} {fl : Bool}
/-! ### comprehensions with two fors -/
theorem TOk.up {p : Addr} {o u : HO} {m : Option Str} {τ : List (V × R)} {x y : V × R} (ex : Ext c (fun l a => l = (.t τ.length, m) ∧ a = p) O O' H H') (hy : TOk c H' O' σ (y :: τ)) : ∀ {τ1 : List (V × R)}, TOk c H O σ (τ1 ++ x :: τ) → TOk c H' O' σ (τ1 ++ y :: τ)
  | [], _ => hy
  | (v, .al i) :: τ1, h => ⟨h.1, TOk.up (u := u) (o := o) ex hy h.2⟩
  | (v, .alf i f) :: τ1, h => by
    obtain ⟨⟨z, C, dx, vfs, hb, e1, o1, e2, e3⟩, h2⟩ := h
    obtain ⟨o', e2'⟩ := ex.hO z _ _ o1 (fun k => by cases k.1) e2
    exact ⟨⟨z, C, dx, vfs, hb, e1, o', e2', e3⟩, TOk.up (u := u) (o := o) ex hy h2⟩
  | (v, .va ct) :: τ1, h => ⟨by
      have h1 := h.1
      have el : (τ1.append (x :: τ)).length = (τ1.append (y :: τ)).length := by show (τ1 ++ x :: τ).length = (τ1 ++ y :: τ).length; simp
      rw [el] at h1
      have e2 : (τ1.append (y :: τ)).length = τ1.length + (τ.length + 1) := by
        show (τ1 ++ y :: τ).length = _
        simp
      refine COk.mono ex (fun m' a k => ?_) h1
      have k1 := k.1
      simp only [Prod.mk.injEq, Lab.t.injEq] at k1
      omega, TOk.up (u := u) (o := o) ex hy h.2⟩
theorem Sim0.appMid {τ1 : List (V × R)} {D' : Addr} {l : List D} {d : D} (S : Sim0 c H O ρ (τ1 ++ (.ref D', .va (Wl l)) :: τ) σ) (r : Rp c.K H (c.av O) d v) : ∃ vs, H D' = some (.lst vs) ∧ vs.length = l.length ∧ Sim0 c (upd H D' (.lst (vs ++ [v]))) O ρ (τ1 ++ (.ref D', .va (Wl (l ++ [d]))) :: τ) σ := by
  have tm := S.tm.app
  obtain ⟨a, vs, e, o, ha, rr⟩ := tm.1
  cases e
  have ex := Ext.wr (c := c) (O := O) (o := .lst (vs ++ [v])) ha True.intro o
  obtain ⟨w1, w2, w3⟩ := S.wr (o := .lst (vs ++ [v])) ha o True.intro
  refine ⟨vs, ha, rr.length, S.len, w1, w2, w3, S.io, fun i ct q n => ?_, ?_⟩
  · obtain ⟨w, e1, e2⟩ := S.sl i ct q n
    exact ⟨w, e1, e2.mono ex (fun m b z => by cases z.1)⟩
  · refine TOk.up (x := (.ref D', .va (Wl l))) (u := .lst vs) (o := .lst vs) ex ?_ S.tm
    exact ⟨⟨D', _, rfl, o, upd_same, ex.rps (rr.app (.one r))⟩, tm.2.mono ex (fun k m b hk z => by cases z.1; omega) (fun w i f m x C dx vfs hx z => by cases z.1)⟩
def lcI (g : Tg) (tt : TTp) (te : TEp) (own : List Nat) (E : Exn → En → Prop) (K : List D → En → Prop) : List D → List D → En → Prop
  | [], acc, ρ => K acc ρ
  | d :: ds, acc, ρ => match tgK g d (wipeE ρ own) with
    | some ρ2 => tt ρ2 (fun b ρ3 => if b = true then te ρ3 (fun r ρ4 => match fzC ρ4 r with
        | some (dy, ρ5) => acc.length < sizeLine ∧ lcI g tt te own E K ds (acc ++ [dy]) (wipeE ρ5 own)
        | none => False) E else lcI g tt te own E K ds acc (wipeE ρ3 own)) E
    | none => False
def lcK2 (g : Tg) (tt : TTp) (TI1 : TIp') (g1 : Tg) (tt1 : TTp) (te : TEp) (own own1 : List Nat) (E : Exn → En → Prop) (R : R → En → Prop) : List D → List D → En → Prop
  | [], acc, ρ => R (.va (Wl acc)) ρ
  | d :: ds, acc, ρ => match tgK g d (wipeE ρ own) with
    | some ρ2 => tt ρ2 (fun b ρ3 => if b = true then TI1 ρ3 (fun ds1 ρ4 => lcI g1 tt1 te own1 E (fun acc ρ5 => lcK2 g tt TI1 g1 tt1 te own own1 E R ds acc (wipeE ρ5 own)) ds1 acc (wipeE ρ4 own1)) E else lcK2 g tt TI1 g1 tt1 te own own1 E R ds acc (wipeE ρ3 own)) E
    | none => False
def tLcc (TI : TIp') (g : Tg) (tt : TTp) (TI1 : TIp') (g1 : Tg) (tt1 : TTp) (te : TEp) (own own1 : List Nat) : TEp := fun ρ R E => TI ρ (fun ds ρ1 => lcK2 g tt TI1 g1 tt1 te own own1 E R ds [] (wipeE ρ1 own)) E
theorem lc_rd2 {TI TI1 : TIp'} {g g1 : Tg} {tt tt1 : TTp} {te : TEp} {own own1 : List Nat} {Q : VK} (hown : ∀ i ∈ own, c.nb ≤ i) (hlk : ∀ i ∈ own, i ∉ c.lock) (hsub : ∀ i ∈ own1, i ∈ own) (hg : ∀ i ∈ g.sl, i ∈ own) (hg1 : ∀ i ∈ g1.sl, i ∈ own1) (hek : ∀ E0 σ σ', ek E0 σ → ek E0 σ')
    (h : rd c ek fl (tLcc TI g tt TI1 g1 tt1 te own own1) σ H Q) : tLc2 (rdI c ek fl TI) (rdG c g) (rdT c ek fl tt) (rdI c ek fl TI1) (rdG c g1) (rdT c ek fl tt1) (rd c ek fl te) own own1 σ H Q := by
  obtain ⟨ρ, τ, R0, E0, S, hT, hQ, hE⟩ := h
  have hown1 : ∀ i ∈ own1, c.nb ≤ i := fun i hi => hown i (hsub i hi)
  have hlk1 : ∀ i ∈ own1, i ∉ c.lock := fun i hi => hlk i (hsub i hi)
  refine ⟨ρ, τ, _, _, S, hT, fun ds ρ1 J H1 τi h1 hJ ni S1 => ?_, hE⟩
  intro D hD
  have nalf2 : fl = true → NoAlf ((V.ref D, R.va (Wl [])) :: (τi ++ τ)) := fun z w i f m => by
    rcases List.mem_cons.mp m with e | m
    · cases e
    · rcases List.mem_append.mp m with m | m
      · obtain ⟨ct, e⟩ := ni w _ m; cases e
      · exact hE.2 z w i f m
  have nalf3 : ∀ acc, fl = true → NoAlf ((V.ref D, R.va (Wl acc)) :: (τi ++ τ)) := fun acc z w i f m => by
    rcases List.mem_cons.mp m with e | m
    · cases e
    · exact nalf2 z w i f (List.mem_cons_of_mem _ m)
  refine ⟨fun i m H => m = ds.length - i ∧ i ≤ ds.length ∧ ∃ ρ acc, Sim c ρ ((.ref D, .va (Wl acc)) :: (τi ++ τ)) (wipe σ own) H ∧ (∀ j ∈ own, ∀ ct, ρ[j]? = some ct → ct = .no) ∧ lcK2 g tt TI1 g1 tt1 te own own1 E0 R0 (ds.drop i) acc ρ,
    ⟨ds.length, by simp, Nat.zero_le _, wipeE ρ1 own, [], ?_, fun j hj ct q => wipeE_in hj ct q, h1⟩, ?_⟩
  · obtain ⟨O, S1⟩ := S1
    obtain ⟨O2, S2⟩ := S1.newLst hD Rps.nil
    exact ⟨O2, S2.wipe hown hlk (wipe_length σ own) (fun i hi => wipe_outS hi)⟩
  · rintro i m H2 ⟨rfl, hi, ρ2, acc, S2, hno, hk⟩
    obtain ⟨j1, j2⟩ := hJ (wipe σ own) H2 ρ2 [(.ref D, .va (Wl acc))] τ i S2
    by_cases hlt : i < ds.length
    · have hd : ds[i]? = some ds[i] := List.getElem?_eq_getElem hlt
      obtain ⟨jg, jy⟩ := j1 _ hd
      rw [List.drop_eq_getElem_cons hlt] at hk
      unfold lcK2 at hk
      refine .inr ⟨jg, fun H' => ∃ ρ acc, Sim c ρ ((.ref D, .va (Wl acc)) :: (τi ++ τ)) (wipe σ own) H' ∧ (∀ j ∈ own, ∀ ct, ρ[j]? = some ct → ct = .no) ∧ lcK2 g tt TI1 g1 tt1 te own own1 E0 R0 (ds.drop (i + 1)) acc ρ, fun H' hN => ⟨ds.length - (i + 1), by omega, rfl, hlt, hN⟩, fun x H' y => ?_⟩
      obtain ⟨O, S3, rp⟩ := jy x H' y
      split at hk
      · rename_i ρ' e1
        refine ⟨wipeE ρ2 own, _, ds[i], ρ', O, S3.wipe hown hlk rfl (fun _ _ => rfl), .inr (fun j hj => hown j (hg j hj)), rp, e1, fun σ2 agr S4 => ⟨wipe_agr agr hg, ?_⟩⟩
        have back : ∀ {ρ5 : En} {H5 : Hp} {O5 : Ow} {acc : List Pm.D}, Sim0 c H5 O5 ρ5 ((.ref D, .va (Wl acc)) :: (τi ++ τ)) σ2 → Sim0 c H5 O5 (wipeE ρ5 own) ((.ref D, .va (Wl acc)) :: (τi ++ τ)) (wipe σ own) := fun {ρ5 H5 O5 acc} S =>
          S.wipe hown hlk agr.1.symm (fun j hj => (agr.2 j (fun z => hj (hg j z))).symm)
        have back1 : ∀ {ρ5 : En} {H5 : Hp} {O5 : Ow} {acc : List Pm.D}, Sim0 c H5 O5 ρ5 ((.ref D, .va (Wl acc)) :: (τi ++ τ)) (wipe σ2 own1) → Sim0 c H5 O5 (wipeE ρ5 own) ((.ref D, .va (Wl acc)) :: (τi ++ τ)) (wipe σ own) := fun {ρ5 H5 O5 acc} S =>
          S.wipe hown hlk (by rw [wipe_length σ2 own1]; exact agr.1.symm) (fun j hj => by rw [wipe_outS (σ := σ2) (fun z => hj (hsub j z))]; exact (agr.2 j (fun z => hj (hg j z))).symm)
        refine ⟨ρ', _, _, E0, ⟨O, S4⟩, hk, fun b ρ3 H3 h3 S5 => ?_, hek _ _ _ hE.1, nalf3 acc⟩
        cases b with
        | true =>
          rw [if_pos rfl] at h3 ⊢
          refine ⟨ρ3, _, _, E0, S5, h3, fun ds1 ρ4 J1 H4 τi1 h4 hJ1 ni1 S6 => ?_, hek _ _ _ hE.1, nalf3 acc⟩
          have nalf4 : ∀ acc, fl = true → NoAlf (τi1 ++ (V.ref D, R.va (Wl acc)) :: (τi ++ τ)) := fun acc z w i f m => by
            rcases List.mem_append.mp m with m | m
            · obtain ⟨ct, e⟩ := ni1 w _ m; cases e
            · exact nalf3 acc z w i f m
          refine ⟨fun j k H => k = ds1.length - j ∧ j ≤ ds1.length ∧ ∃ ρ acc, Sim c ρ (τi1 ++ (.ref D, .va (Wl acc)) :: (τi ++ τ)) (wipe σ2 own1) H ∧ lcI g1 tt1 te own1 E0 (fun acc ρ5 => lcK2 g tt TI1 g1 tt1 te own own1 E0 R0 (ds.drop (i + 1)) acc (wipeE ρ5 own)) (ds1.drop j) acc ρ,
            ⟨ds1.length, by simp, Nat.zero_le _, wipeE ρ4 own1, acc, ?_, h4⟩, ?_⟩
          · obtain ⟨O6, S6⟩ := S6
            exact ⟨O6, S6.wipe hown1 hlk1 (wipe_length σ2 own1) (fun i hi => wipe_outS hi)⟩
          · rintro j k H5 ⟨rfl, hj, ρ5, acc5, S7, hk5⟩
            obtain ⟨l1, l2⟩ := hJ1 (wipe σ2 own1) H5 ρ5 [] ((.ref D, .va (Wl acc5)) :: (τi ++ τ)) j S7
            by_cases hlt1 : j < ds1.length
            · have hd1 : ds1[j]? = some ds1[j] := List.getElem?_eq_getElem hlt1
              obtain ⟨lg, ly⟩ := l1 _ hd1
              rw [List.drop_eq_getElem_cons hlt1] at hk5
              unfold lcI at hk5
              refine .inr ⟨lg, fun H' => ∃ ρ acc, Sim c ρ (τi1 ++ (.ref D, .va (Wl acc)) :: (τi ++ τ)) (wipe σ2 own1) H' ∧ lcI g1 tt1 te own1 E0 (fun acc ρ5 => lcK2 g tt TI1 g1 tt1 te own own1 E0 R0 (ds.drop (i + 1)) acc (wipeE ρ5 own)) (ds1.drop (j + 1)) acc ρ, fun H' hN => ⟨ds1.length - (j + 1), by omega, rfl, hlt1, hN⟩, fun x H' y => ?_⟩
              obtain ⟨O8, S8, rp8⟩ := ly x H' y
              split at hk5
              · rename_i ρ9 e9
                refine ⟨wipeE ρ5 own1, _, ds1[j], ρ9, O8, S8.wipe hown1 hlk1 rfl (fun _ _ => rfl), .inr (fun j hj => hown1 j (hg1 j hj)), rp8, e9, fun σ3 agr3 S9 => ⟨wipe_agr agr3 hg1, ?_⟩⟩
                have backI : ∀ {ρ6 : En} {H6 : Hp} {O6 : Ow} {τz : List (V × R)}, Sim0 c H6 O6 ρ6 τz σ3 → Sim0 c H6 O6 (wipeE ρ6 own1) τz (wipe σ2 own1) := fun {ρ6 H6 O6 τz} S =>
                  S.wipe hown1 hlk1 agr3.1.symm (fun j hj => (agr3.2 j (fun z => hj (hg1 j z))).symm)
                refine ⟨ρ9, _, _, E0, ⟨O8, S9⟩, hk5, fun b ρ10 H10 h10 S10 => ?_, hek _ _ _ hE.1, nalf4 acc5⟩
                cases b with
                | true =>
                  rw [if_pos rfl] at h10 ⊢
                  refine ⟨ρ10, _, _, E0, S10, h10, fun r ρ11 y H11 h11 S11 => ?_, hek _ _ _ hE.1, nalf4 acc5⟩
                  obtain ⟨O11, S11⟩ := S11
                  split at h11
                  · rename_i dy ρ12 e12
                    obtain ⟨O12, S12, r12, _⟩ := fzC_ok S11 e12
                    obtain ⟨vs, hv, hl, S13⟩ := S12.appMid r12
                    exact ⟨vs, hv, by rw [hl]; exact h11.1, _, _, ⟨_, backI S13⟩, h11.2⟩
                  · exact h11.elim
                | false =>
                  rw [if_neg Bool.false_ne_true] at h10 ⊢
                  obtain ⟨O11, S11⟩ := S10
                  exact ⟨_, acc5, ⟨_, backI S11⟩, h10⟩
              · exact hk5.elim
            · have e : j = ds1.length := by omega
              subst e
              rw [List.drop_length] at hk5
              unfold lcI at hk5
              refine .inl ⟨l2 (Nat.le_refl _), ?_⟩
              obtain ⟨O8, S8⟩ := S7
              have S9 : Sim0 c H5 O8 ρ5 ((.ref D, .va (Wl acc5)) :: (τi ++ τ)) (wipe σ2 own1) := ⟨S8.len, S8.fr, S8.ow, S8.zt, S8.io, S8.sl, S8.tm.app⟩
              exact ⟨_, acc5, ⟨_, back1 S9⟩, fun j hj ct q => wipeE_in hj ct q, hk5⟩
        | false =>
          rw [if_neg Bool.false_ne_true] at h3 ⊢
          obtain ⟨O5, S5⟩ := S5
          exact ⟨_, acc, ⟨_, back S5⟩, fun j hj ct q => wipeE_in hj ct q, h3⟩
      · exact hk.elim
    · have e : i = ds.length := by omega
      subst e
      rw [List.drop_length] at hk
      unfold lcK2 at hk
      refine .inl ⟨j2 (Nat.le_refl _), hQ _ _ _ _ hk (Sim.mid (τi := τi) ?_)⟩
      obtain ⟨O, S2⟩ := S2
      have := S2.wipe (σ' := σ) hown hlk (wipe_length σ own).symm (fun j hj => (wipe_outS hj).symm)
      rw [wipeE_eq hno] at this
      exact ⟨O, this⟩
end
section
variable {c : Cc} {X : Cx} {ek : EK} {fl : Bool} {ρ : En} {d : D} {t t1 : TTp} {Te : TEp} {Rr : R → En → Prop} {Ee : Exn → En → Prop}
variable {elt tg iter tg1 iter1 : Expr} {ifs ifs1 : List Expr} {scope : Scope} {own : List (Str × Nat)} {own1 : List Nat} {TI TI1 : TIp'} {g g1 : Tg} {tt tt1 : TTp} {pos : Pos}
theorem p_lc2 (hc : X.calm = true) (hN : X.N.Nodup) (hi : PIp' c ek0 fl X tg iter TI) (ok : BlkOk X.N X.env.scope scope own) (hown : ∀ i ∈ own.map (·.2), c.nb ≤ i) (hlk : ∀ i ∈ own.map (·.2), i ∉ c.lock) (hv : ∀ i ∈ own1, i ∈ own.map (·.2)) (hsl : ∀ i ∈ g.sl, i ∈ own.map (·.2)) (hsl1 : ∀ i ∈ g1.sl, i ∈ own1)
    (hg : ∀ (s : Shared) (H : Hp) (C : Addr) (cl : List (Str × Addr)) (fp : List Addr), PGp c (X.blk s H scope (compEnvC scope cl C X.env) fp) tg g) (ht : ∀ (s : Shared) (H : Hp) (C : Addr) (cl : List (Str × Addr)) (fp : List Addr), PTsp c ek0 fl (X.blk s H scope (compEnvC scope cl C X.env) fp) ifs tt)
    (hi1 : ∀ (s : Shared) (H : Hp) (C : Addr) (cl : List (Str × Addr)) (fp : List Addr), PIp' c ek0 fl (X.blk s H scope (compEnvC scope cl C X.env) fp) tg1 iter1 TI1)
    (hg1 : ∀ (s : Shared) (H : Hp) (C : Addr) (cl : List (Str × Addr)) (fp : List Addr), PGp c (X.blk s H scope (compEnvC scope cl C X.env) fp) tg1 g1) (ht1 : ∀ (s : Shared) (H : Hp) (C : Addr) (cl : List (Str × Addr)) (fp : List Addr), PTsp c ek0 fl (X.blk s H scope (compEnvC scope cl C X.env) fp) ifs1 tt1)
    (he : ∀ (s : Shared) (H : Hp) (C : Addr) (cl : List (Str × Addr)) (fp : List Addr), PEp c ek0 fl (X.blk s H scope (compEnvC scope cl C X.env) fp) elt Te) (hs : ∀ x, foldedSetIterable iter X.env x = pure x := by intro _; rfl) (hs1 : ∀ env x, foldedSetIterable iter1 env x = pure x := by intro _ _; rfl) :
    PEp c ek0 fl X (.ListComp elt [⟨tg, iter, ifs, 0⟩, ⟨tg1, iter1, ifs1, 0⟩] scope pos) (tLcc TI g tt TI1 g1 tt1 Te (own.map (·.2)) own1) :=
  ⟨fun pins s σ H Q I h => (pe_lc2 hc hN hi ok hv hg ht hi1 hg1 ht1 he hs hs1).run pins s σ H Q I (lc_rd2 hown hlk hv hsl hsl1 ek0_any h)⟩
theorem s_setLc2 (j : Nat) {y : Str} {py spos : Pos} (hc : X.calm = true) (hN : X.N.Nodup) (hj : j ∉ c.lock) (hi : PIp' c ek0 true X tg iter TI) (ok : BlkOk X.N X.env.scope scope own) (hown : ∀ i ∈ own.map (·.2), c.nb ≤ i) (hlk : ∀ i ∈ own.map (·.2), i ∉ c.lock) (hv : ∀ i ∈ own1, i ∈ own.map (·.2)) (hsl : ∀ i ∈ g.sl, i ∈ own.map (·.2)) (hsl1 : ∀ i ∈ g1.sl, i ∈ own1)
    (hg : ∀ (s : Shared) (H : Hp) (C : Addr) (cl : List (Str × Addr)) (fp : List Addr), PGp c (X.blk s H scope (compEnvC scope cl C X.env) fp) tg g) (ht : ∀ (s : Shared) (H : Hp) (C : Addr) (cl : List (Str × Addr)) (fp : List Addr), PTsp c ek0 true (X.blk s H scope (compEnvC scope cl C X.env) fp) ifs tt)
    (hi1 : ∀ (s : Shared) (H : Hp) (C : Addr) (cl : List (Str × Addr)) (fp : List Addr), PIp' c ek0 true (X.blk s H scope (compEnvC scope cl C X.env) fp) tg1 iter1 TI1)
    (hg1 : ∀ (s : Shared) (H : Hp) (C : Addr) (cl : List (Str × Addr)) (fp : List Addr), PGp c (X.blk s H scope (compEnvC scope cl C X.env) fp) tg1 g1) (ht1 : ∀ (s : Shared) (H : Hp) (C : Addr) (cl : List (Str × Addr)) (fp : List Addr), PTsp c ek0 true (X.blk s H scope (compEnvC scope cl C X.env) fp) ifs1 tt1)
    (he : ∀ (s : Shared) (H : Hp) (C : Addr) (cl : List (Str × Addr)) (fp : List Addr), PEp c ek0 true (X.blk s H scope (compEnvC scope cl C X.env) fp) elt Te) (hy : X.N[j]? = some y := by rfl) (hyl : X.env.scope.names.lookup y = some .local := by rfl)
    (hsw : swapsWith (.ListComp elt [⟨tg, iter, ifs, 0⟩, ⟨tg1, iter1, ifs1, 0⟩] scope pos) (some (.Name y py)) spos.line X.env = pure true) (hs : ∀ x, foldedSetIterable iter X.env x = pure x := by intro _; rfl) (hs1 : ∀ env x, foldedSetIterable iter1 env x = pure x := by intro _ _; rfl) :
    PSp c ek0 X (.Assign [.Name y py] (.ListComp elt [⟨tg, iter, ifs, 0⟩, ⟨tg1, iter1, ifs1, 0⟩] scope pos) spos) (sSet j (tLcc TI g tt TI1 g1 tt1 Te (own.map (·.2)) own1)) := by
  refine ⟨fun pins s σ H D I h => ?_⟩
  obtain ⟨ρ, τ, E, S, n, hT, q1, q2, q3, q4, q5⟩ := h
  refine (ps_setLc2 hc hN hy hyl hsw hi ok hv hg ht hi1 hg1 ht1 he hs hs1).run pins s σ H D I (lc_rd2 hown hlk hv hsl hsl1 ek0_any ⟨ρ, τ, _, _, S, hT, fun r ρ' v H' h1 S1 => ?_, q5 σ, fun _ => n.alf⟩)
  obtain ⟨ct, ρ2, h2, O, S2⟩ := stC_ok S1 h1
  exact q1 _ _ _ h2 (S2.put n hj)
theorem s_setLc2B (j : Nat) {y : Str} {py spos : Pos} (hc : X.calm = true) (hN : X.N.Nodup) (hj : j ∉ c.lock) (hi : PIp' c ek0 true X tg iter TI) (ok : BlkOk X.N X.env.scope scope own) (hown : ∀ i ∈ own.map (·.2), c.nb ≤ i) (hlk : ∀ i ∈ own.map (·.2), i ∉ c.lock) (hv : ∀ i ∈ own1, i ∈ own.map (·.2)) (hsl : ∀ i ∈ g.sl, i ∈ own.map (·.2)) (hsl1 : ∀ i ∈ g1.sl, i ∈ own1)
    (hg : ∀ (s : Shared) (H : Hp) (C : Addr) (cl : List (Str × Addr)) (fp : List Addr), PGp c (X.blk s H scope (compEnvC scope cl C X.env) fp) tg g) (ht : ∀ (s : Shared) (H : Hp) (C : Addr) (cl : List (Str × Addr)) (fp : List Addr), PTsp c ek0 true (X.blk s H scope (compEnvC scope cl C X.env) fp) ifs tt)
    (hi1 : ∀ (s : Shared) (H : Hp) (C : Addr) (cl : List (Str × Addr)) (fp : List Addr), PIp' c ek0 true (X.blk s H scope (compEnvC scope cl C X.env) fp) tg1 iter1 TI1)
    (hg1 : ∀ (s : Shared) (H : Hp) (C : Addr) (cl : List (Str × Addr)) (fp : List Addr), PGp c (X.blk s H scope (compEnvC scope cl C X.env) fp) tg1 g1) (ht1 : ∀ (s : Shared) (H : Hp) (C : Addr) (cl : List (Str × Addr)) (fp : List Addr), PTsp c ek0 true (X.blk s H scope (compEnvC scope cl C X.env) fp) ifs1 tt1)
    (he : ∀ (s : Shared) (H : Hp) (C : Addr) (cl : List (Str × Addr)) (fp : List Addr), PEp c ek0 true (X.blk s H scope (compEnvC scope cl C X.env) fp) elt Te) (hy : X.N[j]? = some y := by rfl) (hyl : X.env.scope.names.lookup y = some .local := by rfl) (hs : ∀ x, foldedSetIterable iter X.env x = pure x := by intro _; rfl) (hs1 : ∀ env x, foldedSetIterable iter1 env x = pure x := by intro _ _; rfl) :
    PSp c ek0 X (.Assign [.Name y py] (.ListComp elt [⟨tg, iter, ifs, 0⟩, ⟨tg1, iter1, ifs1, 0⟩] scope pos) spos) (sSet j (tLcc TI g tt TI1 g1 tt1 Te (own.map (·.2)) own1)) := by
  rcases sw_or (elt := elt) (gs := [⟨tg, iter, ifs, 0⟩, ⟨tg1, iter1, ifs1, 0⟩]) (scope := scope) (pos := pos) (py := py) (y := y) (l := spos.line) (env := X.env) with h | h
  · exact s_setLc2 j hc hN hj hi ok hown hlk hv hsl hsl1 hg ht hi1 hg1 ht1 he hy hyl h hs hs1
  · exact s_set j hN (p_lc2 hc hN hi ok hown hlk hv hsl hsl1 hg ht hi1 hg1 ht1 he hs hs1) hj hy (.inl hyl) h (.inr hyl)
/-! their equations -/
theorem e_lcc {own : List Nat} : tLcc TI g t TI1 g1 t1 Te own own1 ρ Rr Ee = TI ρ (fun ds ρ1 => lcK2 g t TI1 g1 t1 Te own own1 Ee Rr ds [] (wipeE ρ1 own)) Ee := rfl
theorem lcI_nil {K : List D → En → Prop} {acc : List D} : lcI g1 t1 Te own1 Ee K [] acc ρ = K acc ρ := rfl
theorem lcI_cons {K : List D → En → Prop} {acc ds : List D} : lcI g1 t1 Te own1 Ee K (d :: ds) acc ρ = oD (tgK g1 d (wipeE ρ own1)) fun ρ2 => t1 ρ2 (fun b ρ3 => if b = true then Te ρ3 (fun r ρ4 => oD (fzC ρ4 r) fun p => acc.length < sizeLine ∧ lcI g1 t1 Te own1 Ee K ds (acc ++ [p.1]) (wipeE p.2 own1)) Ee else lcI g1 t1 Te own1 Ee K ds acc (wipeE ρ3 own1)) Ee := by
  show (match tgK g1 d (wipeE ρ own1) with | some ρ2 => _ | none => False) = oD _ _
  cases tgK g1 d (wipeE ρ own1) with
  | none => rfl
  | some ρ2 =>
    show t1 ρ2 _ Ee = t1 ρ2 _ Ee
    congr 1
    funext b ρ3
    split
    · congr 1
      funext r ρ4
      cases fzC ρ4 r <;> rfl
    · rfl
theorem lc2_nil {own : List Nat} {acc : List D} : lcK2 g t TI1 g1 t1 Te own own1 Ee Rr [] acc ρ = Rr (.va (Wl acc)) ρ := rfl
theorem lc2_cons {own : List Nat} {acc ds : List D} : lcK2 g t TI1 g1 t1 Te own own1 Ee Rr (d :: ds) acc ρ = oD (tgK g d (wipeE ρ own)) fun ρ2 => t ρ2 (fun b ρ3 => if b = true then TI1 ρ3 (fun ds1 ρ4 => lcI g1 t1 Te own1 Ee (fun acc ρ5 => lcK2 g t TI1 g1 t1 Te own own1 Ee Rr ds acc (wipeE ρ5 own)) ds1 acc (wipeE ρ4 own1)) Ee else lcK2 g t TI1 g1 t1 Te own own1 Ee Rr ds acc (wipeE ρ3 own)) Ee := by
  show (match tgK g d (wipeE ρ own) with | some ρ2 => _ | none => False) = oD _ _
  cases tgK g d (wipeE ρ own) <;> rfl
/-- a loop inside, by a yield for each -/
theorem lcI_pure {α : Type} {f : α → D} (h : α → List D) (ρ : En) (P : α → Prop) {K : List D → En → Prop}
    (step : ∀ (a : α) (acc : List D) (K' : List D → En → Prop), P a → acc.length < sizeLine → K' (acc ++ h a) ρ → oD (tgK g1 (f a) (wipeE ρ own1)) fun ρ2 => t1 ρ2 (fun b ρ3 => if b = true then Te ρ3 (fun r ρ4 => oD (fzC ρ4 r) fun p => acc.length < sizeLine ∧ K' (acc ++ [p.1]) (wipeE p.2 own1)) Ee else K' acc (wipeE ρ3 own1)) Ee)
    (h1 : ∀ a, (h a).length ≤ 1) :
    ∀ (l : List α) (acc : List D), (∀ a ∈ l, P a) → acc.length + l.length ≤ sizeLine → K (acc ++ l.flatMap h) ρ → lcI g1 t1 Te own1 Ee K (l.map f) acc ρ
  | [], acc, _, _, q => by rw [List.map_nil, lcI_nil]; simpa using q
  | a :: l, acc, hP, hl, q => by
    rw [List.map_cons, lcI_cons]
    rw [List.length_cons] at hl
    refine step a acc (fun acc ρ => lcI g1 t1 Te own1 Ee K (l.map f) acc ρ) (hP a List.mem_cons_self) (by omega) (lcI_pure h ρ P step h1 l (acc ++ h a) (fun x hx => hP x (List.mem_cons_of_mem _ hx)) ?_ ?_)
    · have := h1 a
      rw [List.length_append]; omega
    · rw [List.append_assoc]; exact q
/-- the loop outside, by invariants -/
theorem lc2_ind {α : Type} {f : α → D} {own : List Nat} (I : List α → List D → En → Prop)
    (step : ∀ (a : α) (l : List α) (acc : List D) (ρ : En) (K : List D → En → Prop), I (a :: l) acc ρ → (∀ acc' ρ', I l acc' ρ' → K acc' ρ') → oD (tgK g (f a) (wipeE ρ own)) fun ρ2 => t ρ2 (fun b ρ3 => if b = true then TI1 ρ3 (fun ds1 ρ4 => lcI g1 t1 Te own1 Ee (fun acc ρ5 => K acc (wipeE ρ5 own)) ds1 acc (wipeE ρ4 own1)) Ee else K acc (wipeE ρ3 own)) Ee)
    (fin : ∀ acc ρ, I [] acc ρ → Rr (.va (Wl acc)) ρ) :
    ∀ (l : List α) (acc : List D) (ρ : En), I l acc ρ → lcK2 g t TI1 g1 t1 Te own own1 Ee Rr (l.map f) acc ρ
  | [], acc, ρ, h => by rw [List.map_nil, lc2_nil]; exact fin acc ρ h
  | a :: l, acc, ρ, h => by
    rw [List.map_cons, lc2_cons]
    exact step a l acc ρ (fun acc ρ => lcK2 g t TI1 g1 t1 Te own own1 Ee Rr (l.map f) acc ρ) h fun acc' ρ' h' => lc2_ind I step fin l acc' ρ' h'
end
end Pm

namespace Pm
open PySem PySem.Spec PyProof.Rows L2
section
variable {c : Cc} {O O' : Ow} {H H' : Hp} {ρ ρ' : En} {τ τ' : List (V × R)} {σ σ' : St} {v : V} {X : Cx} {ek : EK} {fl : Bool} {e e2 : Expr} {TA : TAp} {pos : Pos}
/-! ### zip of two lists -/
def zpD : List D → List D → List D
  | x :: l, y :: m => .tup [x, y] :: zpD l m
  | _, _ => []
theorem zpD_get : ∀ {l m : List D} {i : Nat} {d : D}, (zpD l m)[i]? = some d → ∃ x y, l[i]? = some x ∧ m[i]? = some y ∧ d = .tup [x, y]
  | [], _, i, d, h => by simp [zpD] at h
  | _ :: _, [], i, d, h => by simp [zpD] at h
  | x :: l, y :: m, 0, d, h => by simp [zpD] at h; exact ⟨x, y, rfl, rfl, h.symm⟩
  | x :: l, y :: m, i + 1, d, h => by
    obtain ⟨a, b, h1, h2, h3⟩ := zpD_get (l := l) (m := m) (i := i) (by simpa [zpD] using h)
    exact ⟨a, b, by simpa using h1, by simpa using h2, h3⟩
theorem zpD_len : ∀ {l m : List D} {i : Nat}, (zpD l m).length ≤ i → l.length ≤ i ∨ m.length ≤ i
  | [], _, i, _ => .inl (by simp)
  | _ :: _, [], i, _ => .inr (by simp)
  | x :: l, y :: m, i, h => by
    simp only [zpD, List.length_cons] at h ⊢
    cases i with
    | zero => omega
    | succ i => rcases zpD_len (l := l) (m := m) (i := i) (by omega) with z | z <;> omega
def zpK (ds : List D) (k : List D → Prop) : Prop := match ds with
  | [.lst l, .lst m] => k (zpD l m)
  | _ => False
def iZp (TA : TAp) : TIp' := fun ρ K E => TA ρ (fun rs ρ1 => fzK ρ1 rs fun ds ρ2 => zpK ds fun l => K l ρ2) E
theorem zp_it {l m : List D} {a b : Addr} : ItOk c (Itz c.K a b) (zpD l m) [(.ref b, .va (Fz (.lst m))), (.ref a, .va (Fz (.lst l)))] := by
  intro σ H ρ τ0 τ i S
  obtain ⟨O, S⟩ := S
  have tm := S.tm.app
  have rb : Rp c.K H (c.av O) (.lst m) (.ref b) := tm.1
  have ra : Rp c.K H (c.av O) (.lst l) (.ref a) := tm.2.1
  obtain ⟨a', us, e1, ha, rra⟩ := ra.top.lst
  cases e1
  obtain ⟨b', ws, e1, hb, rrb⟩ := rb.top.lst
  cases e1
  refine ⟨fun d hd => ?_, fun hl => ⟨us, ws, SqL.of ha, SqL.of hb, ?_⟩⟩
  · obtain ⟨x, y, h1, h2, h3⟩ := zpD_get hd
    obtain ⟨u, hu, ru⟩ := rra.get h1
    obtain ⟨w, hw, rw'⟩ := rrb.get h2
    refine ⟨⟨us, ws, u, w, SqL.of ha, SqL.of hb, hu, hw⟩, fun x' H' y' => ?_⟩
    obtain ⟨t, u', w', ex, hn, eH, y1, y2⟩ := y'
    have y1 := y1 us (SqL.of ha)
    rw [hu] at y1; cases y1
    have y2 := y2 ws (SqL.of hb)
    rw [hw] at y2; cases y2
    subst ex eH h3
    have S2 := S.new (o := .tup [u, w]) (m := none) hn (fun z => absurd rfl z)
    refine ⟨_, S2, ?_⟩
    have ex := Ext.new (o := .tup [u, w]) (m := none) S hn
    unfold Rp
    exact ⟨t, _, rfl, SqT.of upd_same, .cons (ex.rp ru) (.one (ex.rp rw'))⟩
  · have l1 := rra.length
    have l2 := rrb.length
    have := zpD_len hl
    omega
theorem i_zip {tgs : List Expr} {kk : Nat} {tp p : Pos} (hm : X.mg "zip" = none) (ha : PAp c ek fl X [e, e2] TA) (hK : X.K = c.K := by rfl) (hg : Gl X "zip" := by rfl)
    (hs : starEach [e, e2] X.env = (false, eval e X.env) :: starEach [e2] X.env := by rfl) (hpl : (backTo pos (starEach [e2] X.env)).any (·.1) = false := by rfl) : PIp' c ek fl X (.Tuple tgs kk tp) (.Call (.Name "zip" p) [e, e2] [] pos) (iZp TA) := by
  refine ⟨fun pins s σ H Q I h => ?_⟩
  obtain ⟨ρ, τ, R0, E0, S, hT, q, q5⟩ := h
  refine (pi_zip hg hm ha hs hpl).run pins s σ H Q I ⟨ρ, τ, _, _, S, hT, fun rs ρ' vs H' h1 hl S1 => ?_, q5⟩
  obtain ⟨ds, ρ2, e2, h2⟩ := h1.of
  unfold zpK at h2
  split at h2
  · rename_i l m
    obtain ⟨O1, S1⟩ := S1
    obtain ⟨O2, S2, rr, _⟩ := fzL_ok hl S1 e2
    obtain ⟨v1, r1, rfl, rp1, rr⟩ := rr
    obtain ⟨v2, r2, rfl, rp2, rr⟩ := rr
    unfold Rps at rr; subst rr
    obtain ⟨a, us, rfl, ha, ra⟩ := rp1.top.lst
    obtain ⟨b, ws, rfl, hb, rb⟩ := rp2.top.lst
    refine ⟨a, b, us, ws, rfl, SqL.of ha, SqL.of hb, ?_⟩
    rw [hK]
    exact q (zpD l m) ρ2 _ _ [(.ref b, .va (Fz (.lst m))), (.ref a, .va (Fz (.lst l)))] h2 zp_it (fun v r m => by
      rcases List.mem_cons.mp m with e | m
      · cases e; exact ⟨_, rfl⟩
      · rcases List.mem_cons.mp m with e | m
        · cases e; exact ⟨_, rfl⟩
        · cases m) ⟨O2, (S2.push (ct := Fz (.lst l)) rp1).push (ct := Fz (.lst m)) rp2⟩
  · exact h2.elim
theorem e_iZp {K : List D → En → Prop} {Ee : Exn → En → Prop} : iZp TA ρ K Ee = TA ρ (fun rs ρ1 => fzK ρ1 rs fun ds ρ2 => zpK ds fun l => K l ρ2) Ee := rfl
theorem zpK_lst {l m : List D} {k : List D → Prop} : zpK [.lst l, .lst m] k = k (zpD l m) := rfl
end
end Pm

namespace Pm
open PySem PySem.Spec PyProof.Rows L2
section
variable {c : Cc} {O O' : Ow} {H H' : Hp} {ρ ρ' : En} {τ τ' : List (V × R)} {σ σ' : St} {v : V} {ℓ ℓ' : Lab} {ct : Ct} {X : Cx} {ek : EK} {fl : Bool}
variable {a b e : Expr} {rest : List Expr} {Ta Tb Te : TEp} {TA' TB' TT' : TTp} {pos pos' : Pos} {T U : TSp} {TA TB : TAp} {es : List Expr}
/-! ## own classes -/
/-- an attribute that no class has -/
def AtOk (K : PySem.W.Frag) (cls : Str → Option Addr) (nm f : Str) : Prop := ∀ C, cls nm = some C → Cls K C ∧ NoAttr K C f
def tFd (nm : Str) (i : Nat) (f : Str) : TEp := fun ρ R _ => match ρ[i]? with
  | some (.ob nm' fs) => nm' = nm ∧ match fs.lookup f with
    | some (.fz d) => R (.va (Fz d)) ρ
    | some _ => R (.alf i f) ρ
    | none => False
  | _ => False
theorem Sim0.obj {i : Nat} {nm : Str} {fs : List (Str × FC)} (S : Sim0 c H O ρ τ σ) (h : ρ[i]? = some (.ob nm fs)) : ∃ x dx C vfs, σ[i]? = some (some (.ref x)) ∧ O x = some (.s i, none) ∧ c.cls nm = some C ∧ H x = some (.ins C dx vfs) ∧ FsOk c H O (.s i) fs vfs := by
  obtain ⟨v, e1, x, dx, C, vfs, e2, o, k, hx, r⟩ := S.sl i _ h (by intro z; cases z)
  subst e2
  exact ⟨x, dx, C, vfs, e1, o, k, hx, r⟩
theorem p_fd (i : Nat) {nm f x : Str} {p : Pos} (A : AtOk X.K c.cls nm f) (hb : i < c.nb) (hN : X.N[i]? = some x := by rfl) (hv : Vis X.env.scope x := by first | exact Or.inl rfl | exact Or.inr (Or.inl rfl) | exact Or.inr (Or.inr rfl)) (hd : (x == ("__debug__" : Str)) = false := by decide)
    (hcd : (x == ("__classdict__" : Str)) = false := by decide) (hba : attributeBase (.Name x p) f X.env (eval (.Name x p) X.env) = eval (.Name x p) X.env := by rfl) : PEp c ek fl X (.Attribute (.Name x p) f pos) (tFd nm i f) := by
  refine ⟨fun pins s σ H Q I h => ?_⟩
  obtain ⟨ρ, τ, R0, E0, ⟨O, S⟩, hT, hQ, hE⟩ := h
  unfold tFd at hT
  split at hT
  · rename_i nm' fs e0
    obtain ⟨hn, hT⟩ := hT
    subst hn
    obtain ⟨x1, dx, C, vfs, e1, o, k, hx, r⟩ := S.obj e0
    obtain ⟨hC, hA⟩ := A C k
    have go : ∀ w r', vfs.lookup f = some w → R0 r' ρ → Sim c ρ ((w, r') :: τ) σ H → wpAny (model X.prog X.w) X.A (eval (.Attribute (.Name x p) f pos) X.env) (EP X pins σ Q) X.xe s := fun w r' hl h0 S' =>
      (pe_fld (pe_var hN hv hd hcd) hba).run pins s σ H Q I ⟨_, e1, x1, C, dx, vfs, w, rfl, hx, hC, hA, hl, hQ _ _ _ _ h0 S'⟩
    cases q : fs.lookup f with
    | none => rw [q] at hT; exact hT.elim
    | some fc =>
      rw [q] at hT
      obtain ⟨w, hl, hf⟩ := r.get q
      cases fc with
      | fz d => exact go w _ hl hT ⟨O, S.push hf⟩
      | ow l => exact go w _ hl hT ⟨O, S.len, S.fr, S.ow, S.zt, S.io, S.sl, ⟨x1, C, dx, vfs, hb, e1, o, hx, hl⟩, S.tm⟩
      | dk l => exact go w _ hl hT ⟨O, S.len, S.fr, S.ow, S.zt, S.io, S.sl, ⟨x1, C, dx, vfs, hb, e1, o, hx, hl⟩, S.tm⟩
  · exact hT.elim

/-! ### a field is stored -/
theorem keys_put2 {α β : Type} {f : Str} {w : α} {u : β} : ∀ {fs : List (Str × α)} {vs : List (Str × β)}, vs.map (·.1) = fs.map (·.1) → (putA f u vs).map (·.1) = (putA f w fs).map (·.1)
  | [], [], _ => rfl
  | [], _ :: _, h => by cases h
  | _ :: _, [], h => by cases h
  | (g, a) :: fs, (g', b) :: vs, h => by
    simp only [List.map_cons, List.cons.injEq] at h
    obtain ⟨h1, h2⟩ := h
    subst h1
    unfold putA
    by_cases hk : f = g'
    · rw [if_pos hk, if_pos hk]; simp [h2]
    · rw [if_neg hk, if_neg hk]
      simp only [List.map_cons]
      rw [keys_put2 h2]
theorem putF_A {f : Str} {v : V} : ∀ {fs : List (Str × V)}, putF f v fs = putA f v fs
  | [] => rfl
  | (g, x) :: r => by
    unfold putF putA
    by_cases h : g = f
    · rw [if_pos h, if_pos h.symm]
    · rw [if_neg h, if_neg (fun z => h z.symm), putF_A]
theorem FsOk.put2 {f : Str} {fc : FC} {w : V} {fs : List (Str × FC)} {vs : List (Str × V)} {P : Lab × Option Str → Addr → Prop} (e : Ext c P O O' H H') (hp : ∀ g a, g ≠ f → ¬ P (ℓ, some g) a) (h : FsOk c H O ℓ fs vs)
    (q : FOk c H' O' w (ℓ, some f) fc) : FsOk c H' O' ℓ (putA f fc fs) (putA f w vs) := by
  refine ⟨keys_put2 h.1, fun g kc z => ?_⟩
  rw [lookup_putA] at z ⊢
  by_cases hg : g = f
  · subst hg
    rw [if_pos rfl] at z ⊢; cases z
    exact ⟨w, rfl, q⟩
  · rw [if_neg hg] at z ⊢
    obtain ⟨u, e1, e2⟩ := h.2 g kc z
    exact ⟨u, e1, e2.mono e (fun a z => hp g a hg z)⟩
/-- the root of a content gets another label -/
theorem FOk.root {m : Lab × Option Str} {m' : Lab × Option Str} {f : FC} (h : FOk c H O v m f) : ∃ O', (∀ P : Lab × Option Str → Addr → Prop, P = (fun l a => l = m ∧ O' a = some m') → Ext c P O O' H H) ∧ FOk c H O' v m' f ∧ (∀ a l, O' a = some l → l = m' ∨ O a = some l) ∧ ∀ a, O' a ≠ none ↔ O a ≠ none := by
  have one : ∀ p, O p = some m → (∀ P : Lab × Option Str → Addr → Prop, P = (fun l a => l = m ∧ (O.set p (some m')) a = some m') → Ext c P O (O.set p (some m')) H H) ∧ (∀ a l, (O.set p (some m')) a = some l → l = m' ∨ O a = some l) ∧ ∀ a, (O.set p (some m')) a ≠ none ↔ O a ≠ none := fun p hp => by
    refine ⟨fun P hP => ?_, fun a l q => ?_, fun a => ?_⟩
    · subst hP
      have ex := Ext.lab (c := c) (H := H) (p := p) (ℓ := m.1) (m := m.2) (ℓ' := m'.1) (m' := m'.2) hp
      exact ⟨ex.hF, ex.hT, ex.hL, fun a l o h n h2 => ex.hO a l o h (fun z => n ⟨z.1, by rw [z.2]; exact Ow.set_same⟩) h2⟩
    · by_cases ha : a = p
      · subst ha; rw [Ow.set_same] at q; cases q; exact .inl rfl
      · rw [Ow.set_ne ha] at q; exact .inr q
    · by_cases ha : a = p
      · subst ha; rw [Ow.set_same, hp]; simp
      · rw [Ow.set_ne ha]
  cases f with
  | fz d => exact ⟨O, fun P hP => ⟨fun _ _ _ h => h, fun _ _ h => h, fun _ _ h n => ⟨h, n⟩, fun _ _ _ h _ h2 => ⟨h, h2⟩⟩, h, fun a l q => .inr q, fun a => Iff.rfl⟩
  | ow l =>
    obtain ⟨p, vs, rfl, o, hp, r⟩ := h
    obtain ⟨h1, h2, h3⟩ := one p o
    exact ⟨_, h1, ⟨p, vs, rfl, Ow.set_same, hp, (h1 _ rfl).rps r⟩, h2, h3⟩
  | dk l =>
    obtain ⟨p, vs, rfl, o, hp, k, r⟩ := h
    obtain ⟨h1, h2, h3⟩ := one p o
    exact ⟨_, h1, ⟨p, vs, rfl, Ow.set_same, hp, k, (h1 _ rfl).rps r⟩, h2, h3⟩
/-- the top temporary goes to a field of an object that stands in a slot -/
theorem Sim0.putFd {i : Nat} {nm f : Str} {fs : List (Str × FC)} {fc : FC} {x C dx : Addr} {vfs : List (Str × V)} (S : Sim0 c H O ρ ((v, .va (.at fc)) :: τ) σ) (n : NoAl τ) (h : ρ[i]? = some (.ob nm fs)) (e1 : σ[i]? = some (some (.ref x))) (o : O x = some (.s i, none)) (k : c.cls nm = some C) (hx : H x = some (.ins C dx vfs)) (r : FsOk c H O (.s i) fs vfs) :
    Sim c (ρ.set i (.ob nm (putA f fc fs))) τ σ (upd H x (.ins C dx (putF f v vfs))) := by
  have hc : FOk c H O v (.t τ.length, none) fc := S.tm.1
  have S1 := S.pop
  obtain ⟨O2, ex, hf, hlab, hnn⟩ := hc.root (m' := (.s i, some f))
  have ex := ex _ rfl
  have o2 : O2 x = some (.s i, none) := (ex.hO x _ _ o (fun z => by cases z.1) hx).1
  have r2 : FsOk c H O2 (.s i) fs vfs := r.mono ex (fun g a z => by cases z.1)
  have S2 : Sim0 c H O2 ρ τ σ := by
    refine ⟨S1.len, S1.fr, fun a l q => ?_, S1.zt, S1.io, fun j ct q hn => ?_, S1.tm.mono ex (fun k m a hk z => by cases z.1; omega) (fun w j g m _ _ _ _ _ z => by cases z.1)⟩
    · have : O a ≠ none := (hnn a).mp (by rw [q]; simp)
      cases q' : O a with
      | none => exact absurd q' this
      | some l' => exact S1.ow a l' q'
    · obtain ⟨w, e3, e4⟩ := S1.sl j ct q hn
      exact ⟨w, e3, e4.mono ex (fun m a z => by cases z.1)⟩
  have ex3 := Ext.wr (c := c) (O := O2) (o := .ins C dx (putF f v vfs)) hx True.intro o2
  obtain ⟨w1, w2, w3⟩ := S2.wr (o := .ins C dx (putF f v vfs)) hx o2 True.intro
  have r3 : FsOk c (upd H x (.ins C dx (putF f v vfs))) O2 (.s i) (putA f fc fs) (putF f v vfs) := by
    rw [putF_A]
    exact r2.put2 (by rw [← putF_A]; exact ex3) (fun g a hg z => by cases z.1) ((by rw [← putF_A]; exact hf.mono ex3 (fun a z => by cases z.1)))
  refine ⟨O2, by rw [List.length_set]; exact S2.len, w1, w2, w3, S2.io, S2.slots_set ex3 fun _ => ⟨_, e1, x, dx, C, _, rfl, o2, k, upd_same, r3⟩, S2.tm.mono ex3 (fun k m b _ z => by cases z.1) (fun w j g m _ _ _ _ _ z => ?_)⟩
  obtain ⟨ct, e⟩ := n w _ m
  cases e
/-- o.f = e -/
def sFd (nm : Str) (i : Nat) (f : Str) (Te : TEp) : TSp := fun ρ E => Te ρ (fun r ρ' => stC ρ' r fun ct ρ'' => match ct, ρ''[i]? with
  | .at fc, some (.ob nm' fs) => nm' = nm ∧ fs.length < 1000 ∧ E.nx (ρ''.set i (.ob nm (putA f fc fs)))
  | _, _ => False) E.ex
theorem s_fd (i : Nat) {nm f x : Str} {p : Pos} (A : AtOk X.K c.cls nm f) (he : PEp c ek true X e Te) (hN : X.N[i]? = some x := by rfl) (hv : Vis X.env.scope x := by first | exact Or.inl rfl | exact Or.inr (Or.inl rfl) | exact Or.inr (Or.inr rfl)) (hd : (x == ("__debug__" : Str)) = false := by decide)
    (hcd : (x == ("__classdict__" : Str)) = false := by decide) (hs : swapsWith e (some (.Attribute (.Name x p) f pos')) pos.line X.env = pure false := by rfl) : PSp c ek X (.Assign [.Attribute (.Name x p) f pos'] e pos) (sFd nm i f Te) := by
  refine ⟨fun pins s σ H D I h => ?_⟩
  obtain ⟨ρ, τ, E, S, n, hT, q1, q2, q3, q4, q5⟩ := h
  refine (ps_fld (pe_var hN hv hd hcd) he hs).run pins s σ H D I ⟨ρ, τ, _, _, S, hT, fun r ρ' y H1 h1 S1 => ?_, q5 σ, fun _ => n.alf⟩
  obtain ⟨ct, ρ2, h2, O, S2⟩ := stC_ok S1 h1
  split at h2
  · rename_i fc nm' fs e0
    obtain ⟨hn, hl, h2⟩ := h2
    subst hn
    obtain ⟨x1, dx, C, vfs, e1, o, k, hx, r⟩ := S2.obj e0
    obtain ⟨hC, hA⟩ := A C k
    exact ⟨_, e1, x1, C, dx, vfs, rfl, hx, hC, hA, by rw [r.length]; exact hl, q1 _ _ _ h2 (S2.putFd n e0 e1 o k hx r)⟩
  · exact h2.elim

/-! ### o.m(..) -/
structure MethOk (P : Program) (w : World) (K : PySem.W.Frag) (cls : Str → Option Addr) (mg : Str → Option Value) (base : Heap) (nm m : Str) (n : Nat) (dcs : List D) (k : Nat) (φ : Fn) : Prop where
  ex : ∀ C, cls nm = some C → ∃ f fd ps ds dvs, Cls K C ∧ Meth K C m f ∧ Binds K fd ps ds ∧ Vals dvs ds ∧ (∀ H A, Rps K H A dcs dvs) ∧ FnOk P w K mg base CX0 k f fd ps (spOf K cls n φ)
def tMe (nm : Str) (i : Nat) (m : Str) (φ : Fn) (ms : List Bool) (dcs : List D) (TA : TAp) : TEp := fun ρ R E => match ρ[i]? with
  | some (.ob nm' fs) => nm' = nm ∧ fs.lookup m = none ∧ TA ρ (fun rs ρ1 => callK φ (true :: ms) dcs (.al i :: rs) ρ1 R E) E
  | _ => False
section
variable {nm m x : Str} {n k k' : Nat} {dcs : List D} {φ : Fn} {p apos : Pos}
theorem p_me (i : Nat) (ms : List Bool) (F : MethOk X.prog X.w X.K c.cls X.mg X.base nm m n dcs k φ) (hb : i < c.nb) (hr : Room k' X.A) (hk : k ≤ k') (ha : PAp c ek0 true X (e :: es) TA) (hn : ms.length + 1 + dcs.length = n := by rfl)
    (hN : X.N[i]? = some x := by rfl) (hv : Vis X.env.scope x := by first | exact Or.inl rfl | exact Or.inr (Or.inl rfl) | exact Or.inr (Or.inr rfl)) (hd : (x == ("__debug__" : Str)) = false := by decide) (hcd : (x == ("__classdict__" : Str)) = false := by decide) (hK : X.K = c.K := by rfl)
    (hst : starEach (e :: es) X.env = (false, eval e X.env) :: starEach es X.env := by rfl) (hpl : (backTo pos (starEach es X.env)).any (·.1) = false := by rfl) {pl : Sem Bool}
    (ht : eval (.Call (.Attribute (.Name x p) m apos) (e :: es) [] pos) X.env = (do
      let ov ← eval (.Name x p) X.env
      standAt apos.atName
      let (f, first) ← holding [ov] (getMethod ov m pl)
      callWith pos f first (backTo pos (starEach (e :: es) X.env)) (backToKw pos (keywordEach [] X.env))) := by rfl) :
    PEp c ek0 true X (.Call (.Attribute (.Name x p) m apos) (e :: es) [] pos) (tMe nm i m φ ms dcs TA) := by
  refine ⟨fun pins s σ H Q I h => ?_⟩
  obtain ⟨ρ, τ, R0, E0, ⟨O, S⟩, hT, hQ, hE⟩ := h
  unfold tMe at hT
  split at hT
  · rename_i nm' fs e0
    obtain ⟨hnm, hl, hT⟩ := hT
    subst hnm
    obtain ⟨x1, dx, C, vfs, e1, o, kc, hx, r⟩ := S.obj e0
    obtain ⟨f, fd, ps, ds, dvs, hC, hM, hbd, hdv, hdd, F⟩ := F.ex C kc
    rw [hK] at F
    have F' : FnOk X.prog X.w X.K X.mg X.base CX0 k f fd ps (spOf c.K c.cls n φ) := by rw [hK]; exact F
    have S' : Sim c ρ ((.ref x1, .al i) :: τ) σ H := ⟨O, S.len, S.fr, S.ow, S.zt, S.io, S.sl, ⟨hb, e1⟩, S.tm⟩
    refine (pe_meth (pe_var hN hv hd hcd) hC hM F' (hr.mono hk) hbd hdv pass0 ha hst hpl ht).run pins s σ H Q I ⟨_, e1, x1, dx, vfs, rfl, hx, r.none_get hl, ρ, (.ref x1, .al i) :: τ, _, E0, S', hT, fun rs ρ1 vs H1 h1 hlen S1 => ?_, hE.1, fun z v j g m => ?_⟩
    · exact call_ok (τ := τ) (vs := .ref x1 :: vs) (rs := .al i :: rs) (.inr (hE.2 rfl)) (by rw [← hK]; exact hdd) (by simp only [List.length_cons]; omega) (by simp [hlen]) S1 h1 (fun x ρ => hE.1 x ρ) hQ
    · rcases List.mem_cons.mp m with q | m
      · cases q
      · exact hE.2 z v j g m
  · exact hT.elim
theorem p_me0 (i : Nat) (F : MethOk X.prog X.w X.K c.cls X.mg X.base nm m n dcs k φ) (hb : i < c.nb) (hr : Room k' X.A) (hk : k ≤ k') (hn : 1 + dcs.length = n := by rfl)
    (hN : X.N[i]? = some x := by rfl) (hv : Vis X.env.scope x := by first | exact Or.inl rfl | exact Or.inr (Or.inl rfl) | exact Or.inr (Or.inr rfl)) (hd : (x == ("__debug__" : Str)) = false := by decide) (hcd : (x == ("__classdict__" : Str)) = false := by decide) (hK : X.K = c.K := by rfl) {pl : Sem Bool}
    (ht : eval (.Call (.Attribute (.Name x p) m apos) [] [] pos) X.env = (do
      let ov ← eval (.Name x p) X.env
      standAt apos.atName
      let (f, first) ← holding [ov] (getMethod ov m pl)
      callWith pos f first (backTo pos (starEach [] X.env)) (backToKw pos (keywordEach [] X.env))) := by rfl) :
    PEp c ek0 true X (.Call (.Attribute (.Name x p) m apos) [] [] pos) (tMe nm i m φ [] dcs tANil) := by
  refine ⟨fun pins s σ H Q I h => ?_⟩
  obtain ⟨ρ, τ, R0, E0, ⟨O, S⟩, hT, hQ, hE⟩ := h
  unfold tMe at hT
  split at hT
  · rename_i nm' fs e0
    obtain ⟨hnm, hl, hT⟩ := hT
    subst hnm
    obtain ⟨x1, dx, C, vfs, e1, o, kc, hx, r⟩ := S.obj e0
    obtain ⟨f, fd, ps, ds, dvs, hC, hM, hbd, hdv, hdd, F⟩ := F.ex C kc
    rw [hK] at F
    have F' : FnOk X.prog X.w X.K X.mg X.base CX0 k f fd ps (spOf c.K c.cls n φ) := by rw [hK]; exact F
    have S' : Sim c ρ ((.ref x1, .al i) :: τ) σ H := ⟨O, S.len, S.fr, S.ow, S.zt, S.io, S.sl, ⟨hb, e1⟩, S.tm⟩
    refine (pe_meth0 (pe_var hN hv hd hcd) hC hM F' (hr.mono hk) hbd hdv pass0 ht).run pins s σ H Q I ⟨_, e1, x1, dx, vfs, rfl, hx, r.none_get hl, ?_⟩
    exact call_ok (E := L2.E0) (τ := τ) (vs := [.ref x1]) (rs := [.al i]) (ms := [true]) (dcs := dcs) (.inr (hE.2 rfl)) (by rw [← hK]; exact hdd) hn rfl S' (show callK φ [true] dcs [.al i] ρ R0 E0 from hT) (fun x ρ => hE.1 x ρ) hQ
  · exact hT.elim
end
end
end Pm

namespace Pm
open PySem PySem.Spec PyProof.Rows L2
section
variable {c : Cc} {O O' : Ow} {H H' : Hp} {ρ ρ' : En} {τ τ' : List (V × R)} {σ σ' : St} {v : V} {ℓ ℓ' : Lab} {ct : Ct} {X : Cx} {ek : EK} {fl : Bool}
variable {a b e : Expr} {rest : List Expr} {Ta Tb Tc Td Te : TEp} {TA' TB' TT' : TTp} {pos pos' : Pos} {T U : TSp} {TA TB : TAp} {es : List Expr}
/-! ### C(..) -/
structure MakeOk (P : Program) (w : World) (K : PySem.W.Frag) (cls : Str → Option Addr) (mg : Str → Option Value) (base : Heap) (nm : Str) (n : Nat) (dcs : List D) (k : Nat) (φ : Fn) : Prop where
  ex : ∃ C f fd ps ds dvs, cls nm = some C ∧ mg nm = some (.ref C) ∧ Mk K C f ∧ Binds K fd ps ds ∧ Vals dvs ds ∧ (∀ H A, Rps K H A dcs dvs) ∧ FnOk P w K mg base CX0 k f fd ps (spOf K cls n φ)
def makeK (nm : Str) (m : Nat) (φ : Fn) (dcs : List D) (rs : List R) (ρ : En) (R0 : R → En → Prop) : Prop := rs.length = m ∧ fzK ρ rs fun ds ρ2 => φ (.ob nm [] :: (ds.map Fz ++ dcs.map Fz)) (fun r cs' => r = Fz .non ∧ R0 (.va (cs'.headD .no)) ρ2) (fun _ _ => False)
def tMk (nm : Str) (m : Nat) (φ : Fn) (dcs : List D) (TA : TAp) : TEp := fun ρ R E => TA ρ (fun rs ρ1 => makeK nm m φ dcs rs ρ1 R) E
theorem TOk.ext {c' : Cc} {l : St} (h1 : c'.K = c.K) (h2 : c'.cls = c.cls) (h3 : ∀ a, c'.Z a ↔ c.Z a) (hn : c.nb ≤ c'.nb) : ∀ {τ : List (V × R)}, TOk c H O σ τ → TOk c' H O (σ ++ l) τ
  | [], _ => trivial
  | (v, .al i) :: τ, h => by
    refine ⟨⟨Nat.lt_of_lt_of_le h.1.1 hn, ?_⟩, TOk.ext h1 h2 h3 hn h.2⟩
    have := (List.getElem?_eq_some_iff.mp h.1.2).1
    rw [List.getElem?_append_left this]; exact h.1.2
  | (v, .alf i f) :: τ, h => by
    obtain ⟨⟨x, C, dx, vfs, hb, e1, o, e2, e3⟩, h'⟩ := h
    refine ⟨⟨x, C, dx, vfs, Nat.lt_of_lt_of_le hb hn, ?_, o, e2, e3⟩, TOk.ext h1 h2 h3 hn h'⟩
    have := (List.getElem?_eq_some_iff.mp e1).1
    rw [List.getElem?_append_left this]; exact e1
  | (v, .va ct) :: τ, h => ⟨COk.ctx h1.symm h2.symm (fun a => (h3 a).symm) h.1, TOk.ext h1 h2 h3 hn h.2⟩
theorem aok_frz {xs : List D} {vs : List V} (r : Rps c.K H (c.av O) xs vs) : AOk c H O σ (xs.map .inl) vs := by
  induction xs generalizing vs with
  | nil => unfold Rps at r; exact r
  | cons d ds ih =>
    unfold Rps at r
    obtain ⟨v, w, e, h1, h2⟩ := r
    exact ⟨v, w, e, h1, ih h2⟩
theorem brs_frz : ∀ {xs : List D}, brs (xs.map .inl) = []
  | [] => rfl
  | d :: ds => by rw [List.map_cons]; exact brs_frz (xs := ds)
theorem cts_frz : ∀ {xs : List D}, cts ρ (xs.map .inl) = xs.map Fz
  | [] => rfl
  | d :: ds => by rw [List.map_cons, List.map_cons, ← cts_frz (xs := ds)]; rfl
theorem wb_frz : ∀ {xs : List D} {cs : List Ct}, wb (xs.map .inl) cs ρ = ρ
  | [], cs => by simp [wb]
  | d :: ds, [] => by rw [List.map_cons]; unfold wb; exact wb_frz
  | d :: ds, _ :: cs => by rw [List.map_cons]; unfold wb; exact wb_frz
theorem set_last {α : Type} (l : List α) (x y : α) : (l ++ [x]).set l.length y = l ++ [y] := by simp
theorem make_ok {nm : Str} {m : Nat} {φ : Fn} {dcs : List D} {dvs : List V} {rs : List R} {vs : List V} {n : Nat} {R0 : R → En → Prop} {Q : VK} {E : XK} {C x dx : Addr} (hC : c.cls nm = some C) (hd : ∀ H A, Rps c.K H A dcs dvs) (hn : m + 1 + dcs.length = n) (hl : vs.length = rs.length)
    (S : Sim c ρ (tmps τ vs rs) σ H) (h : makeK nm m φ dcs rs ρ R0) (hQ : ∀ r ρ' v H', R0 r ρ' → Sim c ρ' ((v, r) :: τ) σ H' → Q v H') (hx : H x = none) (hdx : H dx = none) (ne : dx ≠ x) :
    spOf c.K c.cls n φ (.ref x :: (vs ++ dvs)) (upd (upd H dx (.own x)) x (.ins C dx [])) (fun v H2 => v = .non ∧ Q (.ref x) H2) E := by
  unfold makeK at h
  obtain ⟨hm, h⟩ := h
  obtain ⟨ds, ρ2, e1, h⟩ := h.of
  obtain ⟨O, S⟩ := S
  obtain ⟨O1, S1, r1, _⟩ := fzL_ok hl S e1
  have hld : ds.length = rs.length := by rw [← hl, r1.length]
  have ex1 := Ext.new (o := .own x) (m := none) S1 hdx
  have S2 := S1.new (o := .own x) (m := none) hdx (fun z => absurd rfl z)
  have hx2 : (upd H dx (.own x)) x = none := by rw [upd_ne (Ne.symm ne)]; exact hx
  have ex2 := Ext.new (o := .ins C dx []) (m := some (Lab.s ρ2.length, none)) S2 hx2
  have S3 := S2.new (o := .ins C dx []) (m := some (Lab.s ρ2.length, none)) hx2 (fun _ => True.intro)
  have r3 := ex2.rps (ex1.rps r1)
  generalize hH3 : upd (upd H dx (.own x)) x (.ins C dx []) = H3 at S3 r3 ⊢
  generalize hO3 : Ow.set (Ow.set O1 dx none) x (some (Lab.s ρ2.length, none)) = O3 at S3 r3
  have hX : O3 x = some (Lab.s ρ2.length, none) := by rw [← hO3]; exact Ow.set_same
  have hHx : H3 x = some (.ins C dx []) := by rw [← hH3]; exact upd_same
  have hlen := S3.len
  let c' : Cc := { c with nb := ρ2.length + c.nb + 1 }
  have S4 : Sim0 c' H3 O3 (ρ2 ++ [.ob nm []]) τ (σ ++ [some (.ref x)]) := by
    refine ⟨by simp [hlen], S3.fr, S3.ow, S3.zt, fun p hp => ⟨(S3.io p hp).1, ?_⟩, fun i ct q hn' => ?_, TOk.ext (c := c) (c' := c') rfl rfl (fun _ => Iff.rfl) (by show c.nb ≤ ρ2.length + c.nb + 1; omega) S3.tm⟩
    · have e := (S3.io p hp).2
      rw [List.getElem?_append_left (List.getElem?_eq_some_iff.mp e).1]; exact e
    · by_cases hi : i < ρ2.length
      · rw [List.getElem?_append_left hi] at q
        obtain ⟨w, e2, e3⟩ := S3.sl i ct q hn'
        exact ⟨w, by rw [List.getElem?_append_left (by rw [hlen]; exact hi)]; exact e2, COk.ctx rfl rfl (fun _ => Iff.rfl) e3⟩
      · have e : i = ρ2.length := by
          have := (List.getElem?_eq_some_iff.mp q).1
          simp at this; omega
        subst e
        rw [List.getElem?_append_right (Nat.le_refl _)] at q
        simp at q; subst q
        refine ⟨.ref x, by rw [List.getElem?_append_right (by omega), hlen]; simp, x, dx, C, [], rfl, hX, hC, hHx, rfl, fun f fc z => by cases z⟩
  have A4 : AOk c' H3 O3 (σ ++ [some (.ref x)]) (.inr ρ2.length :: ds.map .inl) (.ref x :: vs) :=
    ⟨.ref x, vs, rfl, by rw [List.getElem?_append_right (by omega), hlen]; simp, aok_frz r3⟩
  have hbr : brs (.inr ρ2.length :: ds.map .inl) = [ρ2.length] := by
    show ρ2.length :: brs (ds.map .inl) = _
    rw [brs_frz]
  have hget : (ρ2 ++ [Ct.ob nm []]).getD ρ2.length .no = .ob nm [] := by simp
  have hcts : cts (ρ2 ++ [.ob nm []]) (.inr ρ2.length :: ds.map .inl) = .ob nm [] :: ds.map Fz := by
    show (ρ2 ++ [Ct.ob nm []]).getD ρ2.length .no :: cts _ (ds.map .inl) = _
    rw [hget, cts_frz]
  have hal : ∀ (v : V) (i : Nat) (f : Str), (v, R.alf i f) ∈ τ → i < ρ2.length := fun v i f m => by
    have : ∀ {τ : List (V × R)}, TOk c H3 O3 σ τ → (v, R.alf i f) ∈ τ → i < σ.length := fun {τ} h m => by
      induction τ with
      | nil => cases m
      | cons p τ ih =>
        rcases List.mem_cons.mp m with e | m
        · subst e
          obtain ⟨⟨_, _, _, _, _, e1, _⟩, _⟩ := h
          exact (List.getElem?_eq_some_iff.mp e1).1
        · exact ih h.ndrop m
    have := this S3.tm m
    omega
  refine call_core (c := c') (xs := .inr ρ2.length :: ds.map .inl) (vs := .ref x :: vs) (ρ1 := ρ2 ++ [.ob nm []]) (O1 := O3) (τ := τ) (σ := σ ++ [some (.ref x)]) (E0 := fun _ _ => False) (R0 := fun r ρ' => r = .va (Fz .non) ∧ ∃ ct, ρ' = ρ2 ++ [ct] ∧ R0 (.va ct) ρ2) (fun v i f m z => ?_) hd (by simp; omega) S4 A4 (by rw [hbr]; simp) (fun i hi => ?_) ?_ (fun _ _ z => z) (fun r ρ' v H' h1 S5 => ?_)
  · rw [hbr] at z
    have := hal v i f m
    simp at z; omega
  · rw [hbr] at hi
    simp at hi
    subst hi
    rw [hget]; rfl
  · rw [hcts]
    refine Eq.mp ?_ h
    congr 1
    · funext r cs'
      apply propext
      constructor
      · rintro ⟨rfl, h2⟩
        refine ⟨rfl, cs'.headD .no, ?_, h2⟩
        cases cs' with
        | nil =>
          show wb (.inr ρ2.length :: ds.map .inl) [] _ = _
          unfold wb
          rw [wb_frz, set_last]; rfl
        | cons c0 cs =>
          show wb (.inr ρ2.length :: ds.map .inl) (c0 :: cs) _ = _
          unfold wb
          rw [wb_frz, set_last]; rfl
      · rintro ⟨h2, ct, h3, h4⟩
        cases h2
        refine ⟨rfl, ?_⟩
        have : ct = cs'.headD .no := by
          cases cs' with
          | nil =>
            have h3 : wb (.inr ρ2.length :: ds.map .inl) [] (ρ2 ++ [Ct.ob nm []]) = ρ2 ++ [ct] := h3
            unfold wb at h3
            rw [wb_frz, set_last] at h3
            have := List.append_cancel_left h3
            cases this; rfl
          | cons c0 cs =>
            have h3 : wb (.inr ρ2.length :: ds.map .inl) (c0 :: cs) (ρ2 ++ [Ct.ob nm []]) = ρ2 ++ [ct] := h3
            unfold wb at h3
            rw [wb_frz, set_last] at h3
            have := List.append_cancel_left h3
            cases this; rfl
        rw [this] at h4; exact h4
  · obtain ⟨rfl, ct, rfl, h2⟩ := h1
    obtain ⟨O5, S5⟩ := S5
    have hnon : v = .non := by
      have : Rp c.K H' (c.av O5) .non v := S5.tm.1
      exact this.top.non
    refine ⟨hnon, hQ _ _ _ _ h2 ?_⟩
    have S6 := S5.pop
    have ex : Ext c (fun l _ => l.1 = .s ρ2.length) O5 (O5.re (.s ρ2.length) (.t τ.length)) H' H' := Ext.re
    have hl6 : σ.length = ρ2.length := hlen
    have hct : COk c H' (O5.re (.s ρ2.length) (.t τ.length)) (.ref x) (.t τ.length) ct := by
      by_cases hno : ct = .no
      · subst hno; trivial
      · obtain ⟨w, e2, e3⟩ := S6.sl ρ2.length ct (by rw [List.getElem?_append_right (Nat.le_refl _)]; simp) hno
        rw [List.getElem?_append_right (by omega), hl6] at e2
        simp at e2; subst e2
        exact COk.ctx rfl rfl (fun _ => Iff.rfl) (COk.re e3)
    have tm6 : TOk c H' O5 σ τ := by
      have : ∀ {τ : List (V × R)}, TOk c H3 O3 σ τ → TOk c' H' O5 (σ ++ [some (.ref x)]) τ → TOk c H' O5 σ τ := fun {τ} h0 h => by
        induction τ with
        | nil => trivial
        | cons p τ ih =>
          obtain ⟨w, r⟩ := p
          cases r with
          | al i => exact ⟨h0.1, ih h0.2 h.2⟩
          | alf i f =>
            obtain ⟨⟨x1, C1, dx1, vf1, hb1, e1', o1, e2', e3'⟩, h'⟩ := h
            obtain ⟨⟨x2, C2, dx2, vf2, hb2, e4', _⟩, h0'⟩ := h0
            refine ⟨⟨x1, C1, dx1, vf1, hb2, ?_, o1, e2', e3'⟩, ih h0' h'⟩
            rw [List.getElem?_append_left (List.getElem?_eq_some_iff.mp e4').1] at e1'
            exact e1'
          | va ct => exact ⟨COk.ctx rfl rfl (fun _ => Iff.rfl) h.1, ih h0.2 h.2⟩
      exact this S3.tm S6.tm
    refine ⟨O5.re (.s ρ2.length) (.t τ.length), hlen, S6.fr, S6.ow_re, S6.zt, fun p hp => ⟨(S3.io p hp).1, (S3.io p hp).2⟩, fun i ct' q hn' => ?_, hct, tm6.mono ex (fun k m a hk z => by cases z) (fun w j g m _ _ _ _ _ z => ?_)⟩
    · have hi : i < ρ2.length := (List.getElem?_eq_some_iff.mp q).1
      obtain ⟨w, e2, e3⟩ := S6.sl i ct' (by rw [List.getElem?_append_left hi]; exact q) hn'
      rw [List.getElem?_append_left (by omega)] at e2
      exact ⟨w, e2, (COk.ctx (c := c') (c' := c) rfl rfl (fun _ => Iff.rfl) e3).mono ex (fun m a z => by cases z; omega)⟩
    · cases z
      have := hal w _ g m
      omega
section
variable {nm x : Str} {n k k' : Nat} {dcs : List D} {φ : Fn} {p : Pos}
theorem p_mk (m : Nat) (F : MakeOk X.prog X.w X.K c.cls X.mg X.base nm n dcs k φ) (hr : Room k' X.A) (hk : k + 1 ≤ k') (ha : PAp c ek fl X (e :: es) TA) (hn : m + 1 + dcs.length = n := by rfl) (hg : Gl X nm := by rfl) (hK : X.K = c.K := by rfl)
    (hdb : (nm == ("__debug__" : Str)) = false := by decide) (he : starEach (e :: es) X.env = (false, eval e X.env) :: starEach es X.env := by rfl) (hpl : (backTo pos (starEach es X.env)).any (·.1) = false := by rfl) :
    PEp c ek fl X (.Call (.Name nm p) (e :: es) [] pos) (tMk nm m φ dcs TA) := by
  obtain ⟨C, f, fd, ps, ds, dvs, hC, hm, M, hb, hd, hdd, F⟩ := F.ex
  rw [hK] at F
  refine ⟨fun pins s σ H Q I h => ?_⟩
  obtain ⟨ρ, τ, R0, E0, S, hT, hQ, hE⟩ := h
  have F' : FnOk X.prog X.w X.K X.mg X.base CX0 k f fd ps (spOf c.K c.cls n φ) := by rw [hK]; exact F
  refine (pe_make M F' (hr.mono hk) hg hm hb hd pass0 ha hdb he hpl).run pins s σ H Q I ⟨ρ, τ, _, E0, S, hT, fun rs ρ1 vs H1 h1 hl S1 => ?_, hE⟩
  intro x dx hx hdx ne
  exact make_ok hC (by rw [← hK]; exact hdd) hn hl S1 h1 hQ hx hdx ne
theorem p_mk0 (F : MakeOk X.prog X.w X.K c.cls X.mg X.base nm n dcs k φ) (hr : Room k' X.A) (hk : k + 1 ≤ k') (hn : 1 + dcs.length = n := by rfl) (hg : Gl X nm := by rfl) (hK : X.K = c.K := by rfl)
    (hdb : (nm == ("__debug__" : Str)) = false := by decide) : PEp c ek fl X (.Call (.Name nm p) [] [] pos) (tMk nm 0 φ dcs tANil) := by
  obtain ⟨C, f, fd, ps, ds, dvs, hC, hm, M, hb, hd, hdd, F⟩ := F.ex
  rw [hK] at F
  refine ⟨fun pins s σ H Q I h => ?_⟩
  obtain ⟨ρ, τ, R0, E0, S, hT, hQ, hE⟩ := h
  have F' : FnOk X.prog X.w X.K X.mg X.base CX0 k f fd ps (spOf c.K c.cls n φ) := by rw [hK]; exact F
  refine (pe_make0 M F' (hr.mono hk) hg hm hb hd pass0 hdb).run pins s σ H Q I ?_
  intro x dx hx hdx ne
  exact make_ok (rs := []) (vs := []) hC (by rw [← hK]; exact hdd) (by simpa using hn) rfl S (show makeK nm 0 φ dcs [] ρ R0 from hT) hQ hx hdx ne
end
end
end Pm

namespace Pm
open PySem PySem.Spec PyProof.Rows L2
section
variable {c : Cc} {O O' : Ow} {H H' : Hp} {ρ ρ' : En} {τ τ' : List (V × R)} {σ σ' : St} {v : V} {ℓ ℓ' : Lab} {ct : Ct} {X : Cx} {ek : EK} {fl : Bool}
variable {a b e : Expr} {rest : List Expr} {Ta Tb Tc Td Te : TEp} {TA' TB' TT' : TTp} {pos pos' : Pos} {T U : TSp} {TA TB : TAp} {es : List Expr}
/-! ### a place (a slot or a field) changed -/
def setR (ρ : En) (r : R) (fc : FC) : En := match r with
  | .al i => ρ.set i (.at fc)
  | .alf i f => match ρ[i]? with
    | some (.ob nm fs) => ρ.set i (.ob nm (putA f fc fs))
    | _ => ρ
  | .va _ => ρ
def isPl : R → Bool
  | .va _ => false
  | _ => true
theorem Sim0.setPl {r : R} {p : Addr} {u o : HO} {fc fc' : FC} (S : Sim0 c H O ρ ((v, r) :: τ) σ) (hr : isPl r = true) (hc : Pm.ctF ρ r = some fc) (hv : v = .ref p) (ho : O p = some (rLab τ.length r)) (hp : H p = some u) (hni : ∀ C dx fs, u ≠ .ins C dx fs) (hm : Mut (some o)) (hmu : Mut (some u))
    (hn : ∀ P, Ext c P O O H (upd H p o) → FOk c (upd H p o) O v (rLab τ.length r) fc') : Sim0 c (upd H p o) O (setR ρ r fc') τ σ := by
  subst hv
  cases r with
  | va ct => cases hr
  | al i =>
    have hs : σ[i]? = some (some (.ref p)) := S.tm.1.2
    have ex := Ext.wr (c := c) (O := O) (o := o) hp hmu ho
    have S1 := S.pop
    obtain ⟨w1, w2, w3⟩ := S1.wr (o := o) hp ho hm
    exact ⟨by unfold setR; rw [List.length_set]; exact S1.len, w1, w2, w3, S1.io, S1.slots_set ex fun _ => ⟨_, hs, hn _ ex⟩, S1.tm.mono ex (fun k m b _ z => by cases z.1) (fun w i f m x C dx vfs hx z => by rw [z.2, hp] at hx; cases hx; exact hni _ _ _ rfl)⟩
  | alf i f =>
    obtain ⟨nm, fs, e0, e1⟩ := ctF_alf hc
    obtain ⟨⟨x, C, dx, vfs, hb, hs, ox, hx, hl⟩, _⟩ := S.tm
    have S1 := S.pop
    obtain ⟨x', dx', C', vfs', hs', ox', hC', hx', r'⟩ := S1.obj e0
    rw [hs] at hs'; cases hs'
    rw [hx] at hx'; cases hx'
    have ne : x ≠ p := fun z => by subst z; rw [hx] at hp; cases hp; exact hni _ _ _ rfl
    have ex := Ext.wr (c := c) (O := O) (o := o) hp hmu ho
    obtain ⟨w1, w2, w3⟩ := S1.wr (o := o) hp ho hm
    have e2 : setR ρ (.alf i f) fc' = ρ.set i (.ob nm (putA f fc' fs)) := by show (match ρ[i]? with | some (.ob nm fs) => ρ.set i (.ob nm (putA f fc' fs)) | _ => ρ) = _; rw [e0]
    rw [e2]
    refine ⟨by rw [List.length_set]; exact S1.len, w1, w2, w3, S1.io, S1.slots_set ex fun _ => ⟨_, hs, x, dx, C, vfs, rfl, ox, hC', by rw [upd_ne ne]; exact hx, r'.put ex e1 hl (hn _ ex)⟩, S1.tm.mono ex (fun k m b _ z => by cases z.1) (fun w i f m x C dx vfs hx z => by cases z.1)⟩

/-! ### methods that change an owned list of a field -/
def tMuR (f : MuF) (To : TEp) (TA : TAp) : TEp := fun ρ R E => To ρ (fun r ρ1 => isPl r = true ∧ match ctF ρ1 r with
  | some (.ow _) => TA ρ1 (fun rs ρ2 => fzK ρ2 rs fun ds ρ3 => match ctF ρ3 r with
    | some (.ow l) => f l ds fun res l' => R (.va (Fz res)) (setR ρ3 r (.ow l'))
    | _ => False) E
  | _ => False) E
section
variable {name : Str} {apos : Pos} {id : String} {r : V → List V → Hp → VK → Prop} {f : MuF} {o : Expr} {To : TEp}
theorem p_muR (pa : PlainAttrs "list") (slot : Slot "list" name id) (hty : typeOf (.builtin id) = pure (.type "method_descriptor")) (hm : MtR X id r) (ok : MuOk c f r) (ho : PEp c ek fl X o To) (ha : PAp c ek false X (e :: es) TA) (hK : X.K = c.K := by rfl)
    (hbase : attributeBase o name X.env (eval o X.env) = eval o X.env := by rfl)
    (hfew : ((backTo pos (starEach (e :: es) X.env)).all (fun x => !x.1) && (backToKw pos (keywordEach [] X.env)).all (fun x => x.1.isSome) && decide ((e :: es).length + ([] : List Keyword).length + (if ([] : List Keyword).isEmpty then 0 else 1) < 30)) = true := by rfl)
    (hline : (apos.endLine == pos.line) = true := by rfl) (hs : starEach (e :: es) X.env = (false, eval e X.env) :: starEach es X.env := by rfl) (hplain : (backTo pos (starEach es X.env)).any (·.1) = false := by rfl) :
    PEp c ek fl X (.Call (.Attribute o name apos) (e :: es) [] pos) (tMuR f To TA) := by
  refine ⟨fun pins s σ H Q I h => ?_⟩
  obtain ⟨ρ, τ, R0, E0, S, hT, hQ, hE⟩ := h
  refine (pe_bm pa slot hty hm ho ha hbase hfew hline hs hplain).run pins s σ H Q I ⟨ρ, τ, _, E0, S, hT, fun rr ρ1 v H1 h1 S1 => ?_, hE⟩
  obtain ⟨hpl, h1⟩ := h1
  split at h1
  · rename_i l0 e0
    have hty0 : tyV X.K "list" v H1 := by
      obtain ⟨O, S0⟩ := S1
      obtain ⟨p, vs, rfl, ho, hp, rr⟩ := S0.ctF e0
      exact .inl ⟨rfl, vs, SqL.of hp⟩
    refine ⟨hty0, ρ1, (v, rr) :: τ, _, E0, S1, h1, fun rs ρ2 ws H2 h2 hl S2 => ?_, hE.1, fun z => by cases z⟩
    obtain ⟨ds, ρ3, e1, h3⟩ := h2.of
    obtain ⟨O, S2⟩ := S2
    obtain ⟨O2, S3, r2, _⟩ := fzL_ok hl S2 e1
    split at h3
    · rename_i l e2
      obtain ⟨p, vs, rfl, hoo, hp, rrr⟩ := S3.ctF e2
      refine ok (c.av O2) H2 p vs ws l ds Q _ hp rrr r2 h3 fun res l' w vs' h4 h5 h6 => ?_
      have S4 := S3.setPl (o := .lst vs') (fc' := .ow l') hpl e2 rfl hoo hp (by intro _ _ _ z; cases z) True.intro True.intro (fun P ex => ⟨p, vs', rfl, hoo, upd_same, ex.rps h6⟩)
      have ex := Ext.wr (c := c) (O := O2) (o := .lst vs') hp True.intro hoo
      exact hQ _ _ _ _ h4 ⟨O2, S4.push (ct := Fz res) (ex.rp h5)⟩
    · exact h3.elim
  · exact h1.elim
end

/-! ### dicts -/
def keyD : D → Option Key
  | .int i => some (.inl i)
  | .str x => some (.inr x)
  | _ => none
theorem keyD_of {K : PySem.W.Frag} {A : Av} {d : D} {k : Key} (h : RpT K H A d v) (e : keyD d = some k) : v = kV k := by
  cases d <;> cases e
  · exact h.int
  · exact h.str
def dkGet (kvs : List (Key × D)) (k : Key) : Option D := (kvs.find? fun kv => decide (kv.1 = k)).map (·.2)
def dkPut (kvs : List (Key × D)) (k : Key) (d : D) : List (Key × D) :=
  if (kvs.any fun kv => decide (kv.1 = k)) = true then kvs.map (fun kv => if kv.1 = k then (kv.1, d) else kv) else kvs ++ [(k, d)]
theorem dk_get {K : PySem.W.Frag} {A : Av} {k : Key} : ∀ {kvs : List (Key × D)} {ws : List (Key × V)}, ws.map (·.1) = kvs.map (·.1) → Rps K H A (kvs.map (·.2)) (ws.map (·.2)) → (∀ d, dkGet kvs k = some d → ∃ v, valV ws k = some v ∧ Rp K H A d v) ∧ (valV ws k).isSome = (dkGet kvs k).isSome
  | [], [], _, _ => ⟨fun d h => (by cases h), rfl⟩
  | [], _ :: _, h, _ => by cases h
  | _ :: _, [], h, _ => by cases h
  | (k1, d1) :: kvs, (k2, v2) :: ws, h, r => by
    simp only [List.map_cons, List.cons.injEq] at h
    obtain ⟨h1, h2⟩ := h
    subst h1
    simp only [List.map_cons] at r
    unfold Rps at r
    obtain ⟨w, ww, e, r1, r2⟩ := r
    cases e
    obtain ⟨ih1, ih2⟩ := dk_get (k := k) h2 r2
    by_cases hk : k2 = k
    · refine ⟨fun d e => ?_, ?_⟩
      · unfold dkGet at e
        rw [List.find?_cons] at e
        simp [hk] at e
        subst e
        exact ⟨v2, valV_pos hk, r1⟩
      · rw [valV_pos hk]
        unfold dkGet
        rw [List.find?_cons]
        simp [hk]
    · have e1 : dkGet ((k2, d1) :: kvs) k = dkGet kvs k := by
        unfold dkGet
        rw [List.find?_cons]
        simp [hk]
      rw [valV_neg hk, e1]
      exact ⟨ih1, ih2⟩
theorem dk_any {k : Key} : ∀ {kvs : List (Key × D)} {ws : List (Key × V)}, ws.map (·.1) = kvs.map (·.1) → (ws.any fun kv => decide (kv.1 = k)) = (kvs.any fun kv => decide (kv.1 = k))
  | [], [], _ => rfl
  | [], _ :: _, h => by cases h
  | _ :: _, [], h => by cases h
  | (k1, d1) :: kvs, (k2, v2) :: ws, h => by
    simp only [List.map_cons, List.cons.injEq] at h
    obtain ⟨h1, h2⟩ := h
    subst h1
    rw [List.any_cons, List.any_cons, dk_any h2]
theorem dk_put {K : PySem.W.Frag} {A : Av} {k : Key} {d : D} {kvs : List (Key × D)} {ws : List (Key × V)} (h : ws.map (·.1) = kvs.map (·.1)) (r : Rps K H A (kvs.map (·.2)) (ws.map (·.2))) (hv : Rp K H A d v) :
    (putK ws k v).map (·.1) = (dkPut kvs k d).map (·.1) ∧ Rps K H A ((dkPut kvs k d).map (·.2)) ((putK ws k v).map (·.2)) := by
  unfold putK dkPut
  rw [dk_any h]
  split
  · have : ∀ {kvs : List (Key × D)} {ws : List (Key × V)}, ws.map (·.1) = kvs.map (·.1) → Rps K H A (kvs.map (·.2)) (ws.map (·.2)) → (ws.map (fun kv => if kv.1 = k then (kv.1, v) else kv)).map (·.1) = (kvs.map (fun kv => if kv.1 = k then (kv.1, d) else kv)).map (·.1) ∧ Rps K H A ((kvs.map (fun kv => if kv.1 = k then (kv.1, d) else kv)).map (·.2)) ((ws.map (fun kv => if kv.1 = k then (kv.1, v) else kv)).map (·.2)) := fun {kvs} => by
      induction kvs with
      | nil =>
        intro ws h r
        cases ws with
        | nil => exact ⟨rfl, r⟩
        | cons _ _ => cases h
      | cons p kvs ih =>
        intro ws h r
        cases ws with
        | nil => cases h
        | cons q ws =>
          obtain ⟨k1, d1⟩ := p
          obtain ⟨k2, v2⟩ := q
          simp only [List.map_cons, List.cons.injEq] at h
          obtain ⟨h1, h2⟩ := h
          subst h1
          simp only [List.map_cons] at r
          unfold Rps at r
          obtain ⟨w, ww, e, r1, r2⟩ := r
          cases e
          obtain ⟨i1, i2⟩ := ih h2 r2
          simp only [List.map_cons]
          by_cases hk : k2 = k
          · simp only [hk, if_true]
            exact ⟨by rw [i1], .cons hv i2⟩
          · simp only [hk, if_false]
            exact ⟨by rw [i1], .cons r1 i2⟩
    exact this h r
  · simp only [List.map_append, List.map_cons, List.map_nil]
    exact ⟨by rw [h], r.app (.one hv)⟩
/-- {} -/
def tDn : TEp := fun ρ R _ => R (.va (.at (.dk []))) ρ
theorem p_dn : PEp c ek fl X (.Dict [] [] pos) tDn := by
  refine ⟨fun pins s σ H Q I h => ?_⟩
  obtain ⟨ρ, τ, R0, E0, ⟨O, S⟩, hT, hQ, hE⟩ := h
  refine pe_dnewK.run pins s σ H Q I fun p hp => hQ _ _ _ _ hT ?_
  refine ⟨O.set p (some (.t τ.length, none)), (S.new (o := .dK []) hp fun _ => True.intro).push ?_⟩
  exact ⟨p, [], rfl, Ow.set_same, upd_same, rfl, .nil⟩
def dkK (ρ : En) (r rk : R) (k : List (Key × D) → Key → Prop) : Prop := match ctF ρ r with
  | some (.dk kvs) => wD (vw ρ rk) fun d => match keyD d with
    | some key => k kvs key
    | none => False
  | _ => False
theorem dkK.of {r rk : R} {k : List (Key × D) → Key → Prop} (h : dkK ρ r rk k) : ∃ kvs key d, ctF ρ r = some (.dk kvs) ∧ vw ρ rk = some d ∧ keyD d = some key ∧ k kvs key := by
  unfold dkK at h
  split at h
  · rename_i kvs e
    obtain ⟨d, e1, h⟩ := h.of
    split at h
    · rename_i key e2
      exact ⟨kvs, key, d, e, e1, e2, h⟩
    · exact h.elim
  · exact h.elim
/-- d[k] -/
def tDg (Td Tk : TEp) : TEp := fun ρ R E => Td ρ (fun r ρ1 => Tk ρ1 (fun rk ρ2 => dkK ρ2 r rk fun kvs key => wD (dkGet kvs key) fun d => R (.va (Fz d)) ρ2) E) E
theorem p_dg (hu : X.A.units + 65 < cLine) (ha : PEp c ek fl X a Ta) (hb : PEp c ek false X b Tb) (hs : NoSl b := by intro _ _; rfl) : PEp c ek fl X (.Subscript a b pos) (tDg Ta Tb) := by
  refine ⟨fun pins s σ H Q I h => ?_⟩
  obtain ⟨ρ, τ, R0, E0, S, hT, hQ, hE⟩ := h
  refine (pe_dget (by omega) ha hb hs).run pins s σ H Q I ⟨ρ, τ, _, E0, S, hT, fun r ρ1 v H1 h1 S1 => ⟨ρ1, (v, r) :: τ, _, E0, S1, h1, fun rk ρ2 y H2 h2 S2 => ?_, hE.1, fun z => by cases z⟩, hE⟩
  obtain ⟨kvs, key, d, e1, e2, e3, h3⟩ := h2.of
  obtain ⟨dd, e4, h4⟩ := h3.of
  obtain ⟨O, S2⟩ := S2
  obtain ⟨p, ws, rfl, ho, hp, hk, rr⟩ := S2.pop.ctF e1
  have hy := keyD_of (S2.vw e2) e3
  subst hy
  obtain ⟨w, e5, r5⟩ := (dk_get hk rr).1 dd e4
  exact ⟨p, w, rfl, by rw [← e5]; exact DGet.k hp, hQ _ _ _ _ h4 ⟨O, S2.pop.pop.push r5⟩⟩
/-- k in d -/
def tDi (neg : Bool) (Tk Td : TEp) : TEp := fun ρ R E => Tk ρ (fun rk ρ1 => nA rk <| Td ρ1 (fun r ρ2 => dkK ρ2 r rk fun kvs key => R (.va (Fz (.bl (neg != (dkGet kvs key).isSome)))) ρ2) E) E
def tDiT (neg : Bool) (Tk Td : TEp) : TTp := fun ρ R E => Tk ρ (fun rk ρ1 => nA rk <| Td ρ1 (fun r ρ2 => dkK ρ2 r rk fun kvs key => R (neg != (dkGet kvs key).isSome) ρ2) E) E
theorem di_core {Q : VK} {R0 : Bool → En → Prop} {E0 : Exn → En → Prop} {neg : Bool} (S : Sim c ρ τ σ H) (hT : tDiT neg Tb Ta ρ R0 E0) (hE : ek E0 σ ∧ (fl = true → NoAlf τ)) (hQ : ∀ k ρ' H', R0 k ρ' → Sim c ρ' τ σ H' → Q (.bl k) H') :
    rd c ek fl Tb σ H fun y H1 => rd c ek fl Ta σ H1 fun x H2 => ∃ a o, x = .ref a ∧ DGet H2 a y o ∧ Q (.bl (neg != o.isSome)) H2 := by
  refine ⟨ρ, τ, _, E0, S, hT, fun rk ρ1 y H1 h1 S1 => let ⟨h1, n⟩ := h1.of; ⟨ρ1, (y, rk) :: τ, _, E0, S1, h1, fun r ρ2 x H2 h2 S2 => ?_, hE.1, fun z => n (hE.2 z)⟩, hE⟩
  obtain ⟨kvs, key, d, e1, e2, e3, h3⟩ := h2.of
  obtain ⟨O, S2⟩ := S2
  obtain ⟨p, ws, rfl, ho, hp, hk, rr⟩ := S2.ctF e1
  have hy := keyD_of (S2.pop.vw e2) e3
  subst hy
  refine ⟨p, _, rfl, DGet.k hp, ?_⟩
  rw [(dk_get hk rr).2]
  exact hQ _ _ _ h3 ⟨O, S2.pop.pop⟩
theorem p_di (hu : X.A.units + 65 < cLine) (hb : PEp c ek fl X b Tb) (ha : PEp c ek fl X a Ta) (hm : behindInMarks .In a = false := by rfl) : PEp c ek fl X (.Compare b [.In] [a] pos) (tDi false Tb Ta) := by
  refine ⟨fun pins s σ H Q I h => ?_⟩
  obtain ⟨ρ, τ, R0, E0, S, hT, hQ, hE⟩ := h
  refine (pe_cmp (pc_din (by omega) hb ha) hm).run pins s σ H Q I ?_
  refine Eq.mp ?_ (di_core (Q := Q) (R0 := fun k ρ' => R0 (.va (Fz (.bl k))) ρ') (neg := false) S hT hE (fun k ρ' H' h S' => hQ _ _ _ _ h (S'.pushFz fun A => Rp.ofBl _)))
  simp only [Bool.false_bne]; rfl
theorem p_dni (hu : X.A.units + 65 < cLine) (hb : PEp c ek fl X b Tb) (ha : PEp c ek fl X a Ta) (hm : behindInMarks .NotIn a = false := by rfl) : PEp c ek fl X (.Compare b [.NotIn] [a] pos) (tDi true Tb Ta) := by
  refine ⟨fun pins s σ H Q I h => ?_⟩
  obtain ⟨ρ, τ, R0, E0, S, hT, hQ, hE⟩ := h
  refine (pe_cmp (pc_dnotin (by omega) hb ha) hm).run pins s σ H Q I ?_
  refine Eq.mp ?_ (di_core (Q := Q) (R0 := fun k ρ' => R0 (.va (Fz (.bl k))) ρ') (neg := true) S hT hE (fun k ρ' H' h S' => hQ _ _ _ _ h (S'.pushFz fun A => Rp.ofBl _)))
  simp only [Bool.true_bne]; rfl
theorem t_di (hu : X.A.units + 65 < cLine) (hb : PEp c ek fl X b Tb) (ha : PEp c ek fl X a Ta) (hm : behindInMarks .In a = false := by rfl) : PTp c ek fl X (.Compare b [.In] [a] pos) (tDiT false Tb Ta) := by
  refine ⟨fun pins s σ H Q I h => ?_⟩
  obtain ⟨ρ, τ, R0, E0, S, hT, hQ, hE⟩ := h
  refine (pt_cmp (pc_din (by omega) hb ha) hm).run pins s σ H Q I ?_
  refine Eq.mp ?_ (di_core (Q := fun v H => ∃ k, v = .bl k ∧ Q k H) (R0 := R0) (neg := false) S hT hE (fun k ρ' H' h S' => ⟨k, rfl, hQ _ _ _ h S'⟩))
  simp only [Bool.false_bne]; rfl
theorem t_dni (hu : X.A.units + 65 < cLine) (hb : PEp c ek fl X b Tb) (ha : PEp c ek fl X a Ta) (hm : behindInMarks .NotIn a = false := by rfl) : PTp c ek fl X (.Compare b [.NotIn] [a] pos) (tDiT true Tb Ta) := by
  refine ⟨fun pins s σ H Q I h => ?_⟩
  obtain ⟨ρ, τ, R0, E0, S, hT, hQ, hE⟩ := h
  refine (pt_cmp (pc_dnotin (by omega) hb ha) hm).run pins s σ H Q I ?_
  refine Eq.mp ?_ (di_core (Q := fun v H => ∃ k, v = .bl k ∧ Q k H) (R0 := R0) (neg := true) S hT hE (fun k ρ' H' h S' => ⟨k, rfl, hQ _ _ _ h S'⟩))
  simp only [Bool.true_bne]; rfl
/-- d[k] = e -/
def sDp (Td Tk Te : TEp) : TSp := fun ρ E => Te ρ (fun r ρ1 => match fzC ρ1 r with
  | some (d, ρ2) => Td ρ2 (fun rd ρ3 => isPl rd = true ∧ Tk ρ3 (fun rk ρ4 => dkK ρ4 rd rk fun kvs key => kvs.length < sizeLine ∧ E.nx (setR ρ4 rd (.dk (dkPut kvs key d)))) E.ex) E.ex
  | none => False) E.ex
theorem s_dp (hu : X.A.units + 65 < cLine) (ha : PEp c ek true X a Ta) (hb : PEp c ek false X b Tb) (he : PEp c ek true X e Te) (hs : swapsWith e (some (.Subscript a b pos')) pos.line X.env = pure false := by rfl) : PSp c ek X (.Assign [.Subscript a b pos'] e pos) (sDp Ta Tb Te) := by
  refine ⟨fun pins s σ H D I h => ?_⟩
  obtain ⟨ρ, τ, E, S, n, hT, q1, q2, q3, q4, q5⟩ := h
  refine (ps_dput (by omega) ha hb he hs).run pins s σ H D I ⟨ρ, τ, _, E.ex, S, hT, fun r ρ1 v H1 h1 S1 => ?_, q5 σ, fun _ => n.alf⟩
  obtain ⟨O, S1⟩ := S1
  split at h1
  · rename_i d ρ2 e1
    obtain ⟨O2, S2, rp, _⟩ := fzC_ok S1 e1
    have nt : NoAlf ((v, R.va (Fz d)) :: τ) := fun w i f m => by
      rcases List.mem_cons.mp m with z | m
      · cases z
      · exact n.alf w i f m
    refine ⟨ρ2, (v, .va (Fz d)) :: τ, _, E.ex, ⟨O2, S2.push rp⟩, h1, fun rdd ρ3 x H3 h3 S3 => ⟨ρ3, (x, rdd) :: (v, .va (Fz d)) :: τ, _, E.ex, S3, h3.2, fun rk ρ4 y H4 h4 S4 => ?_, q5 σ, fun z => by cases z⟩, q5 σ, fun _ => nt⟩
    obtain ⟨kvs, key, dd, e1, e2, e3, hz, h5⟩ := h4.of
    obtain ⟨O4, S4⟩ := S4
    have S5 := S4.pop
    obtain ⟨p, ws, rfl, ho, hp, hk, rr⟩ := S5.ctF e1
    have hy := keyD_of (S4.vw e2) e3
    subst hy
    have rv : Rp c.K H4 (c.av O4) d v := S5.pop.tm.1
    have hlen : ws.length = kvs.length := by simpa using congrArg List.length hk
    refine ⟨p, _, rfl, DPut.k hp (by rw [hlen]; exact hz), q1 _ _ _ h5 ⟨O4, ?_⟩⟩
    have S6 := S5.setPl (o := .dK (putK ws key v)) (fc' := .dk (dkPut kvs key d)) h3.1 e1 rfl ho hp (by intro _ _ _ z; cases z) True.intro True.intro (fun P ex => by
      obtain ⟨k1, k2⟩ := dk_put (k := key) hk rr rv
      exact ⟨p, _, rfl, ho, upd_same, k1, ex.rps k2⟩)
    exact S6.pop
  · exact h1.elim
end
end Pm

namespace Pm
open PySem PySem.Spec PyProof.Rows L2
section
variable {c : Cc} {O O' : Ow} {H H' : Hp} {ρ ρ' : En} {τ τ' : List (V × R)} {σ σ' : St} {v : V} {ℓ ℓ' : Lab} {ct : Ct} {X : Cx} {ek : EK} {fl : Bool}
variable {a b e : Expr} {rest : List Expr} {Ta Tb Tc Td Te Tk : TEp} {TA' TB' TT' : TTp} {pos pos' : Pos} {T U : TSp} {TA TB : TAp} {es : List Expr}
/-! ### a dict comprehension -/
def keyK (ρ : En) (r : R) (k : Key → Prop) : Prop := wD (vw ρ r) fun d => match keyD d with
  | some key => k key
  | none => False
theorem keyK.of {r : R} {k : Key → Prop} (h : keyK ρ r k) : ∃ d key, vw ρ r = some d ∧ keyD d = some key ∧ k key := by
  unfold keyK at h
  obtain ⟨d, e, h⟩ := h.of
  split at h
  · rename_i key e2; exact ⟨d, key, e, e2, h⟩
  · exact h.elim
def dcK (g : Tg) (tt : TTp) (tk te : TEp) (own : List Nat) (E : Exn → En → Prop) (R : R → En → Prop) : List D → List (Key × D) → En → Prop
  | [], acc, ρ => R (.va (.at (.dk acc))) ρ
  | d :: ds, acc, ρ => oD (tgK g d (wipeE ρ own)) fun ρ2 => tt ρ2 (fun b ρ3 => if b = true then tk ρ3 (fun rk ρ4 => keyK ρ4 rk fun key => te ρ4 (fun r ρ5 => oD (fzC ρ5 r) fun p => acc.length < sizeLine ∧ dcK g tt tk te own E R ds (dkPut acc key p.1) (wipeE p.2 own)) E) E else dcK g tt tk te own E R ds acc (wipeE ρ3 own)) E
def tDcc (TI : TIp') (g : Tg) (tt : TTp) (tk te : TEp) (own : List Nat) : TEp := fun ρ R E => TI ρ (fun ds ρ1 => dcK g tt tk te own E R ds [] (wipeE ρ1 own)) E
theorem Sim0.dkTop {D' : Addr} {kvs : List (Key × D)} {k : Key} {d : D} (S : Sim0 c H O ρ ((.ref D', .va (.at (.dk kvs))) :: τ) σ) (r : Rp c.K H (c.av O) d v) :
    ∃ ws, H D' = some (.dK ws) ∧ ws.length = kvs.length ∧ Sim0 c (upd H D' (.dK (putK ws k v))) O ρ ((.ref D', .va (.at (.dk (dkPut kvs k d)))) :: τ) σ := by
  obtain ⟨a, ws, e, o, ha, hk, rr⟩ := S.tm.1
  cases e
  have ex := Ext.wr (c := c) (O := O) (o := .dK (putK ws k v)) ha True.intro o
  obtain ⟨w1, w2, w3⟩ := S.wr (o := .dK (putK ws k v)) ha o True.intro
  have S' := S.pop
  obtain ⟨k1, k2⟩ := dk_put (k := k) hk rr r
  refine ⟨ws, ha, by simpa using congrArg List.length hk, S.len, w1, w2, w3, S.io, fun i ct q n => ?_, ⟨D', _, rfl, o, upd_same, k1, ex.rps k2⟩, S'.tm.mono ex (fun k m b hk z => by cases z.1; omega) (fun w i f m x C dx vfs hx z => by cases z.1)⟩
  obtain ⟨w, e1, e2⟩ := S'.sl i ct q n
  exact ⟨w, e1, e2.mono ex (fun m b z => by cases z.1)⟩
theorem dc_rd {TI : TIp'} {g : Tg} {tt : TTp} {tk te : TEp} {own : List Nat} {Q : VK} (hown : ∀ i ∈ own, c.nb ≤ i) (hlk : ∀ i ∈ own, i ∉ c.lock) (hg : ∀ i ∈ g.sl, i ∈ own) (hek : ∀ E0 σ σ', ek E0 σ → ek E0 σ')
    (h : rd c ek fl (tDcc TI g tt tk te own) σ H Q) : tDc (rdI c ek fl TI) (rdG c g) (rdT c ek fl tt) (rd c ek fl tk) (rd c ek fl te) own σ H Q := by
  obtain ⟨ρ, τ, R0, E0, S, hT, hQ, hE⟩ := h
  refine ⟨ρ, τ, _, _, S, hT, fun ds ρ1 J H1 τi h1 hJ ni S1 => ?_, hE⟩
  intro L hL
  have clean : ∀ acc, fl = true → NoAlf ((V.ref L, R.va (.at (.dk acc))) :: (τi ++ τ)) := fun acc z w i f m => by
    rcases List.mem_cons.mp m with e | m
    · cases e
    · rcases List.mem_append.mp m with m | m
      · obtain ⟨ct, e⟩ := ni w _ m; cases e
      · exact hE.2 z w i f m
  let Inv' : Nat → Hp → Prop := fun i H => ∃ ρ acc, Sim c ρ ((.ref L, .va (.at (.dk acc))) :: (τi ++ τ)) (wipe σ own) H ∧ (∀ j ∈ own, ∀ ct, ρ[j]? = some ct → ct = .no) ∧ dcK g tt tk te own E0 R0 (ds.drop i) acc ρ
  refine ⟨fun i m H => m = ds.length - i ∧ i ≤ ds.length ∧ Inv' i H, ⟨ds.length, by simp, Nat.zero_le _, wipeE ρ1 own, [], ?_, fun j hj ct q => wipeE_in hj ct q, h1⟩, ?_⟩
  · obtain ⟨O, S1⟩ := S1
    have S2 : Sim0 c (upd H1 L (.dK [])) (O.set L (some (.t (τi ++ τ).length, none))) ρ1 ((.ref L, .va (.at (.dk []))) :: (τi ++ τ)) σ := (S1.new (o := .dK []) hL fun _ => True.intro).push ⟨L, [], rfl, Ow.set_same, upd_same, rfl, .nil⟩
    exact ⟨_, S2.wipe hown hlk (wipe_length σ own) (fun i hi => wipe_outS hi)⟩
  · rintro i m H2 ⟨rfl, hi, ρ2, acc, S2, hno, hk⟩
    obtain ⟨j1, j2⟩ := hJ (wipe σ own) H2 ρ2 [(.ref L, .va (.at (.dk acc)))] τ i S2
    by_cases hlt : i < ds.length
    · have hd : ds[i]? = some ds[i] := List.getElem?_eq_getElem hlt
      obtain ⟨jg, jy⟩ := j1 _ hd
      rw [List.drop_eq_getElem_cons hlt] at hk
      unfold dcK at hk
      refine .inr ⟨jg, fun H' => Inv' (i + 1) H', fun H' hN => ⟨ds.length - (i + 1), by omega, rfl, hlt, hN⟩, fun x H' y => ?_⟩
      obtain ⟨O, S3, rp⟩ := jy x H' y
      obtain ⟨ρ', e1, hk⟩ := hk.of
      refine ⟨wipeE ρ2 own, _, ds[i], ρ', O, S3.wipe hown hlk rfl (fun _ _ => rfl), .inr (fun j hj => hown j (hg j hj)), rp, e1, fun σ2 agr S4 => ⟨wipe_agr agr hg, ?_⟩⟩
      have back : ∀ {ρ5 : En} {H5 : Hp} {O5 : Ow} {acc : List (Key × Pm.D)}, Sim0 c H5 O5 ρ5 ((.ref L, .va (.at (.dk acc))) :: (τi ++ τ)) σ2 → Sim0 c H5 O5 (wipeE ρ5 own) ((.ref L, .va (.at (.dk acc))) :: (τi ++ τ)) (wipe σ own) := fun {ρ5 H5 O5 acc} S =>
        S.wipe hown hlk agr.1.symm (fun j hj => (agr.2 j (fun z => hj (hg j z))).symm)
      refine ⟨ρ', _, _, E0, ⟨O, S4⟩, hk, fun b ρ3 H3 h3 S5 => ?_, hek _ _ _ hE.1, clean acc⟩
      cases b with
      | false =>
        rw [if_neg Bool.false_ne_true] at h3 ⊢
        obtain ⟨O5, S5⟩ := S5
        exact ⟨_, acc, ⟨_, back S5⟩, fun j hj ct q => wipeE_in hj ct q, h3⟩
      | true =>
        rw [if_pos rfl] at h3 ⊢
        refine ⟨ρ3, _, _, E0, S5, h3, fun rk ρ4 y H4 h4 S6 => ?_, hek _ _ _ hE.1, clean acc⟩
        obtain ⟨dd, key, e4, e5, h5⟩ := h4.of
        have hy : y = kV key := by
          obtain ⟨O6, S6⟩ := S6
          exact keyD_of (S6.vw e4) e5
        refine ⟨ρ4, _, _, E0, S6.pop, h5, fun r ρ5 z H5 h6 S7 => ?_, hek _ _ _ hE.1, clean acc⟩
        obtain ⟨p, e6, h7⟩ := h6.of
        obtain ⟨dy, ρ6⟩ := p
        obtain ⟨O7, S7⟩ := S7
        obtain ⟨O8, S8, r8, _⟩ := fzC_ok S7 e6
        obtain ⟨ws, hv, hl, S9⟩ := S8.dkTop (k := key) r8
        exact ⟨ws, key, hy, hv, by rw [hl]; exact h7.1, _, _, ⟨_, back S9⟩, fun j hj ct q => wipeE_in hj ct q, h7.2⟩
    · have e : i = ds.length := by omega
      subst e
      rw [List.drop_length] at hk
      unfold dcK at hk
      refine .inl ⟨j2 (Nat.le_refl _), hQ _ _ _ _ hk (Sim.mid (τi := τi) ?_)⟩
      obtain ⟨O, S2⟩ := S2
      have := S2.wipe (σ' := σ) hown hlk (wipe_length σ own).symm (fun j hj => (wipe_outS hj).symm)
      rw [wipeE_eq hno] at this
      exact ⟨O, this⟩
section
variable {kx vx tg iter : Expr} {ifs : List Expr} {scope : Scope} {own : List (Str × Nat)} {TI : TIp'} {g : Tg} {tt : TTp}
theorem p_dc (hc : X.calm = true) (hN : X.N.Nodup) (hi : PIp' c ek0 fl X tg iter TI) (ok : BlkOk X.N X.env.scope scope own) (hown : ∀ i ∈ own.map (·.2), c.nb ≤ i) (hlk : ∀ i ∈ own.map (·.2), i ∉ c.lock) (hsl : ∀ i ∈ g.sl, i ∈ own.map (·.2))
    (hg : ∀ (s : Shared) (H : Hp) (C : Addr) (cl : List (Str × Addr)) (fp : List Addr), PGp c (X.blk s H scope (compEnvC scope cl C X.env) fp) tg g) (ht : ∀ (s : Shared) (H : Hp) (C : Addr) (cl : List (Str × Addr)) (fp : List Addr), PTsp c ek0 fl (X.blk s H scope (compEnvC scope cl C X.env) fp) ifs tt)
    (hk : ∀ (s : Shared) (H : Hp) (C : Addr) (cl : List (Str × Addr)) (fp : List Addr), PEp c ek0 fl (X.blk s H scope (compEnvC scope cl C X.env) fp) kx Tk) (he : ∀ (s : Shared) (H : Hp) (C : Addr) (cl : List (Str × Addr)) (fp : List Addr), PEp c ek0 fl (X.blk s H scope (compEnvC scope cl C X.env) fp) vx Te) (hs : ∀ x, foldedSetIterable iter X.env x = pure x := by intro _; rfl) :
    PEp c ek0 fl X (.DictComp kx vx [⟨tg, iter, ifs, 0⟩] scope pos) (tDcc TI g tt Tk Te (own.map (·.2))) :=
  ⟨fun pins s σ H Q I h => (pe_dc hc hN hi ok hg ht hk he hs).run pins s σ H Q I (dc_rd hown hlk hsl ek0_any h)⟩
/-- y = {k: v for ..} -/
theorem swd_or {gs : List Comprehension} {py : Pos} {y : Str} {l : Nat} {env : Env} : swapsWith (.DictComp kx vx gs scope pos) (some (.Name y py)) l env = pure true ∨ swapsWith (.DictComp kx vx gs scope pos) (some (.Name y py)) l env = pure false := by
  unfold swapsWith
  simp only [Expr.pos]
  generalize (env.blockKind == .function && env.kindOf y == some .local && py.line == pos.line && !(scope.names.any fun (n, k) => n == y && (k == .local || k == .cell))) = b
  cases b
  · exact .inr rfl
  · exact .inl rfl
theorem s_setDc (j : Nat) {y : Str} {py spos : Pos} (hc : X.calm = true) (hN : X.N.Nodup) (hj : j ∉ c.lock) (hi : PIp' c ek0 true X tg iter TI) (ok : BlkOk X.N X.env.scope scope own) (hown : ∀ i ∈ own.map (·.2), c.nb ≤ i) (hlk : ∀ i ∈ own.map (·.2), i ∉ c.lock) (hsl : ∀ i ∈ g.sl, i ∈ own.map (·.2))
    (hg : ∀ (s : Shared) (H : Hp) (C : Addr) (cl : List (Str × Addr)) (fp : List Addr), PGp c (X.blk s H scope (compEnvC scope cl C X.env) fp) tg g) (ht : ∀ (s : Shared) (H : Hp) (C : Addr) (cl : List (Str × Addr)) (fp : List Addr), PTsp c ek0 true (X.blk s H scope (compEnvC scope cl C X.env) fp) ifs tt)
    (hk : ∀ (s : Shared) (H : Hp) (C : Addr) (cl : List (Str × Addr)) (fp : List Addr), PEp c ek0 true (X.blk s H scope (compEnvC scope cl C X.env) fp) kx Tk) (he : ∀ (s : Shared) (H : Hp) (C : Addr) (cl : List (Str × Addr)) (fp : List Addr), PEp c ek0 true (X.blk s H scope (compEnvC scope cl C X.env) fp) vx Te)
    (hy : X.N[j]? = some y := by rfl) (hyl : X.env.scope.names.lookup y = some .local := by rfl) (hs : ∀ x, foldedSetIterable iter X.env x = pure x := by intro _; rfl) :
    PSp c ek0 X (.Assign [.Name y py] (.DictComp kx vx [⟨tg, iter, ifs, 0⟩] scope pos) spos) (sSet j (tDcc TI g tt Tk Te (own.map (·.2)))) := by
  rcases swd_or (kx := kx) (vx := vx) (scope := scope) (pos := pos) (gs := [⟨tg, iter, ifs, 0⟩]) (py := py) (y := y) (l := spos.line) (env := X.env) with hw | hw
  · refine ⟨fun pins s σ H D I h => ?_⟩
    obtain ⟨ρ, τ, E, S, n, hT, q1, q2, q3, q4, q5⟩ := h
    have hd := dc_rd (fl := true) (Q := fun x H1 => gName j x σ H1 D.nx) hown hlk hsl ek0_any ⟨ρ, τ, _, _, S, hT, fun r ρ' v H' h1 S1 => (by
      obtain ⟨ct, ρ2, h2, O, S2⟩ := stC_ok S1 h1
      exact q1 _ _ _ h2 (S2.put n hj)), q5 σ, fun _ => n.alf⟩
    rw [exec_Assign_Name_used _ _ _ _ hw]
    refine wpAny_bind (wpAny_standAt (wpAny_bind ?_))
    show wpAny _ X.A (do let _ ← comprehension (.DictComp kx vx [⟨tg, iter, ifs, 0⟩] scope pos) scope X.env (firstIterPos [⟨tg, iter, ifs, 0⟩] pos) newDict false (eval iter X.env) (some (assign (.Name y py) X.env))) _ _ s
    refine wpAny_bind (thn (dc_core (Qf := fun _ s' => SP X pins D .next s') hc hN I hi ok hg ht hk he hs hd fun L C s1 m H1 I1 hq hn hf => ?_) fun _ s1 hq => wpAny_pure (wpAny_pure hq))
    show wpAny _ _ (assign (.Name y py) X.env (.ref L)) _ _ _
    refine wpAny_assign_Name (store_ok2 (v := V.ref L) I1 hN hy (.inl hyl) rfl (fun s2 I2 hsb => ?_) (.inr hyl))
    obtain ⟨a2, sb, ha⟩ := hsb
    obtain ⟨f0, f1, f2, f3, f4, f5⟩ := hf
    have neC : C ≠ a2 := ha.elim (fun z => by rw [z]; exact f1) fun z e => f4 y a2 z e.symm
    exact ⟨m, hn.sameBut sb neC, fun h3 sb3 => ⟨_, H1, I2.turned (t' := s2.toks) (fun b o hb e => (sb3.2 b hb).trans e) f0 f1 f3 f4 f5, hq⟩⟩
  · exact s_set j hN (p_dc hc hN hi ok hown hlk hsl hg ht hk he hs) hj hy (.inl hyl) hw (.inr hyl)
end
end
/-! ### math.lcm -/
def rLcm : List V → Hp → VK → Prop := fun vs H Q => ∃ i j : Int, vs = [.int i, .int j] ∧ (i.natAbs.log2 < 9000 ∧ j.natAbs.log2 < 9000) ∧ Q (.int ((Nat.lcm i.natAbs j.natAbs : Nat) : Int)) H
theorem log2_max {a b : Nat} (h1 : a.log2 < 9000) (h2 : b.log2 < 9000) : (max a b).log2 < 9000 := by
  rcases Nat.le_total a b with h | h
  · rw [Nat.max_eq_right h]; exact h2
  · rw [Nat.max_eq_left h]; exact h1
theorem lt_of_log2 {a k : Nat} (h : a.log2 < k) : a < 2 ^ k := by
  by_cases h0 : a = 0
  · subst h0; exact Nat.pos_of_ne_zero (by simp)
  · exact (Nat.log2_lt h0).mp h
theorem cr_lcm {X : Cx} : CallR X (.builtin "math.lcm") rLcm := by
  intro pins s σ H vs us Q I r h
  obtain ⟨i, j, rfl, ⟨hi, hj⟩, q⟩ := h
  obtain ⟨t, u, rfl⟩ := Vals.int2 r
  have h1 := log2_max (a := 1) (by decide) hi
  have h2 := log2_max hi hj
  have hl : Nat.lcm (Nat.lcm 1 i.natAbs) j.natAbs = Nat.lcm i.natAbs j.natAbs := by rw [PySem.W.mc_lcm_one]
  have hz : ((Nat.lcm i.natAbs j.natAbs : Nat) : Int).natAbs.log2 < bitsLine := by
    rw [Int.natAbs_natCast]
    have hm : Nat.lcm i.natAbs j.natAbs < 2 ^ 18000 := by
      refine Nat.lt_of_le_of_lt (PySem.W.mc_lcm_le _ _) ?_
      have e : (2 : Nat) ^ 18000 = 2 ^ 9000 * 2 ^ 9000 := by rw [← Nat.pow_add]
      rw [e]
      exact Nat.mul_lt_mul_of_lt_of_lt (lt_of_log2 hi) (lt_of_log2 hj)
    by_cases h0 : Nat.lcm i.natAbs j.natAbs = 0
    · rw [h0, Nat.log2_zero]; decide
    · exact Nat.lt_of_lt_of_le ((Nat.log2_lt h0).mpr hm) (by decide)
  have g := PySem.W.mg_run_lcm i t j u (by omega) (by omega) (by rw [hl]; exact hz)
  rw [hl] at g
  exact call_function_meets PySem.W.MGF.kind_lcm PySem.W.MGF.plain_lcm PySem.W.MGF.entry_lcm (PySem.W.MGF.args_lcm _ _) g.meets ⟨.int _, H, I.tok _, ⟨_, rfl⟩, q⟩
def fLcm (d d2 : D) (R : D → Prop) : Prop := match d, d2 with
  | .int i, .int j => (i.natAbs.log2 < 9000 ∧ j.natAbs.log2 < 9000) ∧ R (.int ((Nat.lcm i.natAbs j.natAbs : Nat) : Int))
  | _, _ => False
theorem lcm_ok {c : Cc} : CbOk c rLcm (cD2 fLcm) := cD2_ok fun A H v w d d2 Q R0 hv hw hf hQ => by
  unfold fLcm at hf
  split at hf
  · exact ⟨_, _, by rw [hv.int, hw.int], hf.1, hQ _ _ hf.2 (Pl.int _)⟩
  · exact hf.elim
end Pm

set_option maxHeartbeats 1000000
namespace Pm
open PySem PySem.Spec PyProof.Rows L2
/-! ### a set comprehension of ints -/
section
variable {X : Cx}
abbrev ScTurn (w : World) (L : Addr) (te : TE) (Nx : Hp → Prop) (b : Bool) (σ2 : L2.St) (H3 : Hp) : Prop :=
  if b = true then te σ2 H3 fun y H4 => ∃ (k : Int) (S : Int → Bool) (n : Nat), y = .int k ∧ H4 L = some (SetO w L S n) ∧ n + 1 < scanBound ∧ Nx (upd H4 L (SetO w L (fun j => S j || decide (j = k)) (if S k = true then n else n + 1))) else Nx H3
def tScI (w : World) (wi : TI) (g : TG) (tt : TT) (te : TE) (vs : List Nat) : TE := fun σ H Q => wi σ H fun J H1 => ∀ L, H1 L = none →
  ∃ W : Nat → Nat → Hp → Prop, (∃ m, W 0 m (upd H1 L (SetO w L (fun _ => false) 0))) ∧ ∀ i m H, W i m H → (J.stop i H ∧ Q (.ref L) H) ∨ (J.go i H ∧
    ∃ Nx : Hp → Prop, (∀ H', Nx H' → ∃ m', m' < m ∧ W (i + 1) m' H') ∧ ∀ x H', J.yld i H x H' → g x (wipe σ vs) H' fun σ2 H2 => wipe σ2 vs = wipe σ vs ∧ tt σ2 H2 fun b H3 => ScTurn w L te Nx b σ2 H3)
theorem sci_core {pins : List (Addr × Obj)} {s : Shared} {σ : L2.St} {H : Hp} {Q : VK} {elt tg iter : Expr} {ifs : List Expr} {scope : Scope} {own : List (Str × Nat)} {pos pos' : Pos} {wi : TI} {g : TG} {tt : TT} {te : TE} (hcalm : X.calm = true) (hnodup : X.N.Nodup) (I0 : Inv X pins σ H s) (hiter : PI X tg iter wi) (blk : BlkOk X.N X.env.scope scope own)
    (hg : ∀ (s : Shared) (H : Hp) (C : Addr) (cl : List (Str × Addr)) (fp : List Addr), PG (X.blk s H scope (compEnvC scope cl C X.env) fp) tg g) (ht : ∀ (s : Shared) (H : Hp) (C : Addr) (cl : List (Str × Addr)) (fp : List Addr), PTs (X.blk s H scope (compEnvC scope cl C X.env) fp) ifs tt)
    (he : ∀ (s : Shared) (H : Hp) (C : Addr) (cl : List (Str × Addr)) (fp : List Addr), PE (X.blk s H scope (compEnvC scope cl C X.env) fp) elt te) (hfold : ∀ x, foldedSetIterable iter X.env x = pure x) (hT : tScI X.w wi g tt te (own.map (·.2)) σ H Q) :
    wpAny (model X.prog X.w) X.A (comprehension (.SetComp elt [⟨tg, iter, ifs, 0⟩] scope pos) scope X.env pos' (newSet (.type "set")) false (eval iter X.env)) (EP X pins σ Q) X.xe s := by
  refine wpAny_comprehension_free rfl hfold (closure_ok fun y hy e => (blk.free y hy e).elim (fun k => I0.ok.has _ (.inl k)) fun k => I0.ok.has _ (.inr k)) blk.kind (fun y hy e => by rw [blk.uniq y hy, e])
    (thn (hiter.run pins s σ H _ I0 hT) fun xv s1 hx => thn hx fun itv s2 hx2 => ?_)
  obtain ⟨it, fp, tn, J, H2, rfl, I2, T, st2, f2, hW⟩ := hx2
  refine PpSet.newSet_ok (newEnv_comp ?_)
  generalize hL : s2.heap.objs.size = L
  have hLn : H2 L = none := I2.hok.fresh (Nat.le_of_eq hL)
  obtain ⟨W, ⟨m0, w0⟩, turn⟩ := hW L hLn
  generalize hob : (SetO X.w L (fun _ => false) 0) = ob at w0
  generalize hs3 : ({ s2 with heap := s2.heap.push { cls := .type "set", dict := none, data := .set #[] 0 (.fresh 0 0 (!X.w.params.followText "set-order")) } } : Shared) = s3
  have I3 : Inv X pins σ (upd H2 L ob) s3 := by
    subst hs3 hob
    exact I2.laid (t' := s2.toks) (fun b o e => Heap.get?_push_of_some _ e) (Nat.le_of_eq hL) (by subst hL; exact setO_new (setR_fresh X.w))
  have kept3 : ∀ b o, s2.heap.get? b = some o → s3.heap.get? b = some o := fun b o e => by subst hs3; exact Heap.get?_push_of_some _ e
  have size3 : s3.heap.objs.size = s2.heap.objs.size + 1 := by subst hs3; exact Heap.size_push _ _
  have below : ∀ b ∈ fp, b < s2.heap.objs.size := fun b hb => let ⟨o, e, _⟩ := T.obj _ _ st2 b hb; Heap.lt_size e
  have f3 : ∀ b ∈ fp, FpOk X pins (upd H2 L ob) b ∧ b < s3.heap.objs.size := fun b hb => by
    have hlt := below b hb
    exact ⟨⟨by rw [upd_ne (by rw [← hL]; exact Nat.ne_of_lt hlt)]; exact (f2 b hb).1, (f2 b hb).2⟩, by rw [size3]; exact Nat.lt_succ_of_lt hlt⟩
  have st3 : tn 0 s3.heap := T.keep _ _ _ st2 fun b _ o e => kept3 b o e
  have I4 := block_start I3 blk hnodup f3
  generalize hcl : cellsFrom (s3.heap.objs.size + 1) scope.names (cloFrom X.env.cells scope.names []) = cl at I4
  have pg := hg s3 (upd H2 L ob) s3.heap.objs.size cl fp
  have pt := ht s3 (upd H2 L ob) s3.heap.objs.size cl fp
  have pe := he s3 (upd H2 L ob) s3.heap.objs.size cl fp
  have none3 : ∀ b ∈ fp, (upd H2 L ob) b = none := fun b hb => (f3 b hb).1.1
  show codeAny _ _ (.compStart (.SetComp elt [⟨tg, iter, ifs, 0⟩] scope pos) 0 (.ref it) (.ref L) (compEnvC scope cl s3.heap.objs.size X.env)) (compPost (model X.prog X.w) X.A X.xe none (EP X pins σ Q) (.ref L) s3.heap.objs.size) { s3 with heap := pushCells (s3.heap.push { cls := .type "dict", data := .dict #[] }) scope.names }
  generalize hce : compEnvC scope cl s3.heap.objs.size X.env = ce at I4 pg pt pe ⊢
  have locs : ce.locals = s3.heap.objs.size := by subst hce; rfl
  generalize hH3 : upd H2 L ob = H3 at I3 I4 pg pt pe w0 none3 f3
  generalize hs4 : ({ s3 with heap := pushCells (s3.heap.push { cls := .type "dict", data := .dict #[] }) scope.names } : Shared) = s4 at I4 ⊢
  have st4 : tn 0 s4.heap := T.keep _ _ _ st3 fun b _ o e => by subst hs4; exact pushCells_keeps _ _ _ _ (Heap.get?_push_of_some _ e)
  let Y := X.blk s3 H3 scope ce fp
  let vs := own.map (·.2)
  have fpk : ∀ {σ' : L2.St} {H' : Hp} {s' : Shared}, Inv Y [] σ' H' s' → (∀ b ∈ fp, H' b = none) → ∀ b ∈ fp, FpOk Y [] H' b := fun {σ' H' s'} I' hn b hb =>
    ⟨hn b hb, (I'.ok.exf b hb).1, I'.ok.exfs b hb, .inl hb, fun x cx e => (I'.ok.exf b hb).2 x cx e, fun p hp => absurd (show p ∈ ([] : List (Addr × Obj)) ++ [] from hp) List.not_mem_nil⟩
  have loop : codeAny (model X.prog X.w) X.A (.compLoop (.SetComp elt [⟨tg, iter, ifs, 0⟩] scope pos) 0 (.ref it) (.ref L) ce) (compPost (model X.prog X.w) X.A X.xe none (EP X pins σ Q) (.ref L) s3.heap.objs.size) s4 := by
    refine PpSet.compLoopS_any (fun n s' => ∃ i H', Inv Y [] (wipe σ vs) H' s' ∧ tn i s'.heap ∧ (∀ b ∈ fp, H' b = none) ∧ W i n H') ?_ m0 ⟨0, H3, I4, st4, none3, w0⟩
    rintro n s5 ⟨i, H5, I5, st5, n5, w5⟩
    rcases turn i n H5 w5 with ⟨stop, hq⟩ | ⟨go, Nx, hNx, step⟩
    · refine thnF (T.done Y rfl rfl rfl hcalm i [] s5 _ H5 (fun _ _ => False) I5 (fpk I5 n5) st5 stop) fun r s6 hr6 => ?_
      obtain ⟨rfl, I6⟩ := hr6
      have I7 : Inv X pins σ H5 s6 := I3.call' (ch := fp) I6.os I6.base I6.hok I6.bare fun b hb => ⟨(f3 b hb).1.2.2.2.1, (f3 b hb).1.2.1, (f3 b hb).1.2.2.2.2.1, (f3 b hb).1.2.2.2.2.2⟩
      have freeC : H5 s3.heap.objs.size = none := by rw [← locs]; exact I6.free
      obtain ⟨m, hm, _⟩ := I6.loc
      have hm : s6.heap.Ns s3.heap.objs.size m := by rw [← locs]; exact hm
      obtain ⟨g0, g1, g2, g3, g4, g5⟩ := I3.fpOk (Nat.le_refl _) freeC
      exact ⟨m, hm, fun h'' sb => ⟨.ref L, H5, I7.turned (t' := s6.toks) (fun b o hb e => (sb.2 b hb).trans e) g0 g1 g3 g4 g5, rfl, hq⟩⟩
    · refine thnF (T.item Y rfl rfl rfl hcalm i [] s5 _ H5 (fun _ _ => False) I5 (fpk I5 n5) st5 go) fun r s6 hr6 => ?_
      obtain ⟨u, rfl, h6⟩ := hr6
      refine thnF h6 fun _ s7 h7 => ?_
      obtain ⟨x, H7, I7, r7, y7, st7, n7⟩ := h7
      refine thnF (pg.run _ s7 _ H7 x u _ (I7.pinned (fpk I7 n7) (T.obj _ _ st7)) r7 (step x H7 y7)) fun _ s8 h8 => ?_
      obtain ⟨σ8, H8, I8, hw8, q8⟩ := h8
      refine thnF (pt.run _ s8 σ8 H8 _ I8 q8) fun b s9 h9 => ?_
      obtain ⟨H9, I9, q9⟩ := h9
      have fin : ∀ {s' : Shared} {H' : Hp}, Inv Y ([] ++ pinsAt fp s7.heap) σ8 H' s' → Nx H' → ∃ m, m < n ∧ ∃ i H', Inv Y [] (wipe σ vs) H' s' ∧ tn i s'.heap ∧ (∀ b ∈ fp, H' b = none) ∧ W i m H' := fun {s' H'} I' nx => by
        obtain ⟨m', hm, w'⟩ := hNx H' nx
        have pinned : ∀ b ∈ fp, ∀ o, s7.heap.get? b = some o → s'.heap.get? b = some o ∧ H' b = none := fun b hb o e =>
          let z := I'.pin (b, o) (List.mem_append_right _ (List.mem_append_right _ (mem_pinsAt hb e))); ⟨z.1, z.2.1⟩
        refine ⟨m', hm, i + 1, H', (I'.unpinned (pins := [])).weak (by rw [← hw8, wipe_length]) (fun j v e => ?_), T.keep _ _ _ st7 fun b hb o e => (pinned b hb o e).1, fun b hb => let ⟨o, e, _⟩ := T.obj _ _ st7 b hb; (pinned b hb o e).2, w'⟩
        rw [← hw8] at e
        exact (wipe_some e).1
      unfold ScTurn at q9
      cases b with
      | false => rw [if_neg Bool.false_ne_true] at q9; exact fin I9 q9
      | true =>
        rw [if_pos rfl] at q9
        refine thnF (pe.run _ s9 σ8 H9 _ I9 q9) fun z s10 h10 => ?_
        obtain ⟨yv, H10, I10, r10, k, S0, n0, ey, hS0, room, nx⟩ := h10
        rw [ey] at r10
        obtain ⟨tk, hz⟩ := (show ∃ t, z = Value.int k t from r10)
        subst hz
        have R0 := setO_get I10 hS0
        refine setR_add R0 room fun h' sb new => fin ?_ nx
        exact I10.write (e := L) (t' := s10.toks + 1) (by rw [hS0]; trivial) (.inl rfl) (fun b u hb hu => (sb.2 b hb).trans hu) (let ⟨o, _, _, _, ho, _⟩ := new; ⟨o, ho⟩) (setO_new new)
  exact PpSet.codeAny_compStart_set loop (T.self X.A 0 _ _ _ st4 loop)
theorem pe_sci {elt tg iter : Expr} {ifs : List Expr} {scope : Scope} {own : List (Str × Nat)} {pos : Pos} {wi : TI} {g : TG} {tt : TT} {te : TE} (hc : X.calm = true) (hN : X.N.Nodup) (hi : PI X tg iter wi) (ok : BlkOk X.N X.env.scope scope own)
    (hg : ∀ (s : Shared) (H : Hp) (C : Addr) (cl : List (Str × Addr)) (fp : List Addr), PG (X.blk s H scope (compEnvC scope cl C X.env) fp) tg g) (ht : ∀ (s : Shared) (H : Hp) (C : Addr) (cl : List (Str × Addr)) (fp : List Addr), PTs (X.blk s H scope (compEnvC scope cl C X.env) fp) ifs tt)
    (he : ∀ (s : Shared) (H : Hp) (C : Addr) (cl : List (Str × Addr)) (fp : List Addr), PE (X.blk s H scope (compEnvC scope cl C X.env) fp) elt te) (hs : ∀ x, foldedSetIterable iter X.env x = pure x := by intro _; rfl) :
    PE X (.SetComp elt [⟨tg, iter, ifs, 0⟩] scope pos) (tScI X.w wi g tt te (own.map (·.2))) := by
  refine ⟨fun pins s σ H Q I h => ?_⟩
  rw [PpSet.eval_SetComp]
  exact sci_core hc hN I hi ok hg ht he hs h
end
end Pm

namespace Pm
open PySem PySem.Spec PyProof.Rows L2
/-! ### sorted({x[k] for x in e}) -/
def insU (x : Int) : List Int → List Int
  | [] => [x]
  | y :: l => if x < y then x :: y :: l else if x = y then y :: l else y :: insU x l
def srtU (ns : List Int) : List Int := ns.foldr insU []
theorem insU_mem {x z : Int} : ∀ {l : List Int}, z ∈ insU x l ↔ z = x ∨ z ∈ l
  | [] => by simp [insU]
  | y :: l => by
    unfold insU
    split
    · simp
    · split
      · rename_i h; subst h; simp
      · simp only [List.mem_cons, insU_mem (l := l)]
        constructor
        · rintro (h | h | h)
          · exact .inr (.inl h)
          · exact .inl h
          · exact .inr (.inr h)
        · rintro (h | h | h)
          · exact .inr (.inl h)
          · exact .inl h
          · exact .inr (.inr h)
theorem insU_ord {x : Int} : ∀ {l : List Int}, l.Pairwise (· < ·) → (insU x l).Pairwise (· < ·)
  | [], _ => by simp [insU]
  | y :: l, h => by
    unfold insU
    rw [List.pairwise_cons] at h
    split
    · rename_i hx
      rw [List.pairwise_cons, List.pairwise_cons]
      refine ⟨fun z hz => ?_, h⟩
      rcases List.mem_cons.mp hz with e | hz
      · omega
      · have := h.1 z hz; omega
    · split
      · rw [List.pairwise_cons]; exact h
      · rw [List.pairwise_cons]
        refine ⟨fun z hz => ?_, insU_ord h.2⟩
        rcases insU_mem.mp hz with e | hz
        · omega
        · exact h.1 z hz
theorem srtU_mem {z : Int} : ∀ {ns : List Int}, z ∈ srtU ns ↔ z ∈ ns
  | [] => by simp [srtU]
  | n :: ns => by
    show z ∈ insU n (srtU ns) ↔ _
    rw [insU_mem, srtU_mem (ns := ns), List.mem_cons]
theorem srtU_ord : ∀ {ns : List Int}, (srtU ns).Pairwise (· < ·)
  | [] => by simp [srtU]
  | n :: ns => insU_ord (srtU_ord (ns := ns))
theorem asc_eq : ∀ {l m : List Int}, l.Pairwise (· < ·) → m.Pairwise (· < ·) → (∀ z, z ∈ l ↔ z ∈ m) → l = m
  | [], [], _, _, _ => rfl
  | [], y :: m, _, _, h => by have := (h y).mpr (by simp); cases this
  | x :: l, [], _, _, h => by have := (h x).mp (by simp); cases this
  | x :: l, y :: m, h1, h2, h => by
    rw [List.pairwise_cons] at h1 h2
    have e : x = y := by
      have a := (h x).mp (by simp)
      have b := (h y).mpr (by simp)
      rcases List.mem_cons.mp a with a | a
      · exact a
      rcases List.mem_cons.mp b with b | b
      · exact b.symm
      have := h1.1 y b; have := h2.1 x a; omega
    subst e
    rw [asc_eq h1.2 h2.2 fun z => ?_]
    constructor
    · intro hz
      rcases List.mem_cons.mp ((h z).mp (List.mem_cons_of_mem _ hz)) with e | q
      · have := h1.1 z hz; omega
      · exact q
    · intro hz
      rcases List.mem_cons.mp ((h z).mpr (List.mem_cons_of_mem _ hz)) with e | q
      · have := h2.1 z hz; omega
      · exact q
def seqD : D → Option (List D)
  | .lst l => some l
  | .tup l => some l
  | _ => none
def colD (k : Int) (d : D) : Option Int := match seqD d with
  | some l => match atI l k with
    | some (.int n) => some n
    | _ => none
  | none => none
def colI (k : Int) : List D → Option (List Int)
  | [] => some []
  | d :: ds => match colD k d, colI k ds with
    | some n, some ns => some (n :: ns)
    | _, _ => none
theorem colI_len {k : Int} : ∀ {l : List D} {ns : List Int}, colI k l = some ns → ns.length = l.length
  | [], ns, h => by cases h; rfl
  | d :: ds, ns, h => by
    unfold colI at h
    split at h
    · rename_i n ms e1 e2
      cases h
      simp [colI_len e2]
    · cases h
theorem colI_get {k : Int} : ∀ {l : List D} {ns : List Int} {i : Nat} {d : D}, colI k l = some ns → l[i]? = some d → ∃ n, ns[i]? = some n ∧ colD k d = some n
  | [], ns, i, d, h, e => by simp at e
  | d0 :: ds, ns, i, d, h, e => by
    unfold colI at h
    split at h
    · rename_i n ms e1 e2
      cases h
      cases i with
      | zero => simp at e; subst e; exact ⟨n, rfl, e1⟩
      | succ i => obtain ⟨m, q1, q2⟩ := colI_get (i := i) e2 (by simpa using e); exact ⟨m, by simpa using q1, q2⟩
    · cases h
section
variable {c : Cc} {O O' : Ow} {H H' : Hp} {ρ ρ' : En} {τ τ' : List (V × R)} {σ σ' : St} {v : V} {ℓ ℓ' : Lab} {ct : Ct} {X : Cx} {ek : EK} {fl : Bool}
variable {a b e : Expr} {rest : List Expr} {Ta Tb Tc Td Te Tk : TEp} {TA' TB' TT' : TTp} {pos pos' : Pos} {T U : TSp} {TA TB : TAp} {es : List Expr}
def wiAny (K : PySem.W.Frag) (te : TE) : TI := fun σ H R => te σ H fun v H1 => ∃ (a : Addr) (xs : List V), v = .ref a ∧ ((SqL K H1 a xs ∧ R (Itl K a) H1) ∨ (SqT K H1 a xs ∧ R (Itt K a) H1))
theorem pi_any {tg : Expr} {te : TE} (he : PE X e te) : PI X tg e (wiAny X.K te) := by
  refine ⟨fun pins s σ H R I h => ?_⟩
  refine thn (he.run pins s σ H _ I h) fun v s1 ⟨x, H1, I1, rv, p, xs, ex, q⟩ => ?_
  subst ex
  cases rv
  rcases q with ⟨hq, q⟩ | ⟨hq, q⟩
  · exact it_lst I1 hq q
  · exact it_tup I1 hq q
def tSrt (k : Int) (Te : TEp) : TEp := fun ρ R E => Te ρ (fun r ρ1 => oD (fzC ρ1 r) fun p => oD (seqD p.1) fun l => oD (colI k l) fun ns => ns.length < 64 ∧ R (.va (Wl ((srtU ns).map .int))) p.2) E
theorem seq_rp {K : PySem.W.Frag} {A : Av} {d : D} {l : List D} (h : Rp K H A d v) (e : seqD d = some l) : ∃ a vs, v = .ref a ∧ (SqL K H a vs ∨ SqT K H a vs) ∧ Rps K H A l vs := by
  cases d <;> cases e
  · obtain ⟨a, vs, rfl, q, r⟩ := h.top.tup; exact ⟨a, vs, rfl, .inr q, r⟩
  · obtain ⟨a, vs, rfl, q, r⟩ := h.top.lst; exact ⟨a, vs, rfl, .inl (SqL.of q), r⟩
theorem col_rp {K : PySem.W.Frag} {A : Av} {d : D} {k n : Int} (h : Rp K H A d v) (e : colD k d = some n) : rIxL K v (.int k) H (fun w H' => w = .int n ∧ H' = H) ∨ rIxT K v (.int k) H (fun w H' => w = .int n ∧ H' = H) := by
  unfold colD at e
  split at e
  · rename_i l e1
    split at e
    · rename_i m e2
      cases e
      obtain ⟨a, vs, rfl, q, r⟩ := seq_rp h e1
      obtain ⟨w, e3, r3⟩ := atI_rps r e2
      rcases q with q | q
      · exact .inl ⟨a, vs, k, w, rfl, rfl, q, e3, r3.int, rfl⟩
      · exact .inr ⟨a, vs, k, w, rfl, rfl, q, e3, r3.int, rfl⟩
    · cases e
  · cases e
section
variable {x : Str} {p sp xp xp' kp spos : Pos} {k : Int} {j jx : Nat} {scope : Scope}
theorem p_srt (jx : Nat) (hm : X.mg "sorted" = none) (hc : X.calm = true) (hN : X.N.Nodup) (he : PEp c ek fl X e Te) (ok : BlkOk X.N X.env.scope scope [(x, jx)]) (hown : c.nb ≤ jx) (hlk : jx ∉ c.lock)
    (hv : ∀ (s : Shared) (H : Hp) (C : Addr) (cl : List (Str × Addr)) (fp : List Addr), PE (X.blk s H scope (compEnvC scope cl C X.env) fp) (.Subscript (.Name x xp) (.Constant (.int k) j kp) sp) (tOp (fun y z H Q => rIxL X.K y z H Q ∨ rIxT X.K y z H Q) (fun σ H Q => ∃ v, σ[jx]? = some (some v) ∧ Q v H) (tC (.int k))))
    (hg' : ∀ (s : Shared) (H : Hp) (C : Addr) (cl : List (Str × Addr)) (fp : List Addr), PG (X.blk s H scope (compEnvC scope cl C X.env) fp) (.Name x xp') (gName jx))
    (hs : ∀ x, foldedSetIterable e X.env x = pure x := by intro _; rfl) (hg : Gl X "sorted" := by rfl) (hst : starEach [.SetComp (.Subscript (.Name x xp) (.Constant (.int k) j kp) sp) [⟨.Name x xp', e, [], 0⟩] scope spos] X.env = (false, eval (.SetComp (.Subscript (.Name x xp) (.Constant (.int k) j kp) sp) [⟨.Name x xp', e, [], 0⟩] scope spos) X.env) :: starEach [] X.env := by rfl)
    (hpl : (backTo pos (starEach [] X.env)).any (·.1) = false := by rfl) (hK : X.K = c.K := by rfl) :
    PEp c ek fl X (.Call (.Name "sorted" p) [.SetComp (.Subscript (.Name x xp) (.Constant (.int k) j kp) sp) [⟨.Name x xp', e, [], 0⟩] scope spos] [] pos) (tSrt k Te) := by
  refine ⟨fun pins s σ H Q I h => ?_⟩
  obtain ⟨ρ, τ, R0, E0, S, hT, hQ, hE⟩ := h
  refine (pe_callB (cr_sortedSet hc) hg hm (by decide +kernel) (pa_cons (pe_sci (own := [(x, jx)]) hc hN (pi_any he) ok hg' (fun _ _ _ _ _ => pts_nil) hv hs) pa_nil hst) (by decide) (by decide) hst hpl).run pins s σ H Q I ?_
  refine ⟨ρ, τ, _, _, S, hT, fun r ρ1 v H1 h1 S1 => ?_, hE⟩
  obtain ⟨pr, e1, h1⟩ := h1.of
  obtain ⟨l, e2, h1⟩ := h1.of
  obtain ⟨ns, e3, h64, h1⟩ := h1.of
  obtain ⟨d0, ρ2⟩ := pr
  obtain ⟨O, S1⟩ := S1
  obtain ⟨O2, S2, rp, _⟩ := fzC_ok S1 e1
  obtain ⟨a0, vs, rfl, hq, rr⟩ := seq_rp rp e2
  have hlen := colI_len e3
  have hvl := rr.length
  -- the loop
  have core : ∀ J : It, (J = Itl X.K a0 ∧ SqL X.K H1 a0 vs) ∨ (J = Itt X.K a0 ∧ SqT X.K H1 a0 vs) → ∀ L, H1 L = none → ∃ W : Nat → Nat → Hp → Prop, (∃ m, W 0 m (upd H1 L (SetO X.w L (fun _ => false) 0))) ∧ ∀ i m H, W i m H → (J.stop i H ∧ (fun vs' H2 => rSortedSet X.w [vs'] H2 Q) (.ref L) H) ∨ (J.go i H ∧
      ∃ Nx : Hp → Prop, (∀ H', Nx H' → ∃ m', m' < m ∧ W (i + 1) m' H') ∧ ∀ x H', J.yld i H x H' → gName jx x (wipe σ [jx]) H' fun σ2 H2 => wipe σ2 [jx] = wipe σ [jx] ∧ tYes σ2 H2 fun b H3 => ScTurn X.w L (tOp (fun y z H Q => rIxL X.K y z H Q ∨ rIxT X.K y z H Q) (fun σ H Q => ∃ v, σ[jx]? = some (some v) ∧ Q v H) (tC (.int k))) Nx b σ2 H3) := by
    intro J hJ L hL
    have step : ∀ o, Ext c (fun _ _ => False) O2 (O2.set L none) H1 (upd H1 L o) := fun o => Ext.new (o := o) (m := none) S2 hL
    have sL : ∀ o, SqL X.K H1 a0 vs → SqL X.K (upd H1 L o) a0 vs := fun o z => by
      rcases z with (z | ⟨u, z⟩) | z
      · exact .inl (.inl (by rw [upd_ne (ne_of_none z hL)]; exact z))
      · exact .inl (.inr ⟨u, by rw [upd_ne (ne_of_none z hL)]; exact z⟩)
      · exact .inr z
    have sT : ∀ o, SqT X.K H1 a0 vs → SqT X.K (upd H1 L o) a0 vs := fun o z => by rw [hK] at z ⊢; exact (step o).hT _ _ z
    refine ⟨fun i m H => m = vs.length - i ∧ i ≤ vs.length ∧ ∃ n, n ≤ i ∧ H = upd H1 L (SetO X.w L (fun z => decide (z ∈ ns.take i)) n), ⟨vs.length, by simp, Nat.zero_le _, 0, Nat.le_refl _, by simp⟩, ?_⟩
    rintro i m H ⟨rfl, hi, n, hn, rfl⟩
    by_cases hlt : i < vs.length
    · right
      have hd : l[i]? = some l[i] := List.getElem?_eq_getElem (by omega)
      obtain ⟨z, hz, hcol⟩ := colI_get e3 hd
      obtain ⟨w, hw, rw'⟩ := rr.get hd
      have rw2 := (step (SetO X.w L (fun z => decide (z ∈ ns.take i)) n)).rp rw'
      have hz2 : i < ns.length := by omega
      have tk : ns.take (i + 1) = ns.take i ++ [z] := by rw [List.take_add_one, hz]; rfl
      have body : ∀ σ2 : St, σ2[jx]? = some (some w) → ScTurn X.w L (tOp (fun y z H Q => rIxL X.K y z H Q ∨ rIxT X.K y z H Q) (fun σ H Q => ∃ v, σ[jx]? = some (some v) ∧ Q v H) (tC (.int k))) (fun H => i + 1 ≤ vs.length ∧ ∃ n, n ≤ i + 1 ∧ H = upd H1 L (SetO X.w L (fun z => decide (z ∈ ns.take (i + 1))) n)) true σ2 (upd H1 L (SetO X.w L (fun z => decide (z ∈ ns.take i)) n)) := fun σ2 h2 => by
        unfold ScTurn
        rw [if_pos rfl]
        refine ⟨w, h2, ?_⟩
        have fin : (fun (w : V) (H' : Hp) => w = .int z ∧ H' = upd H1 L (SetO X.w L (fun z => decide (z ∈ ns.take i)) n)) = fun (w : V) (H' : Hp) => w = .int z ∧ H' = upd H1 L (SetO X.w L (fun z => decide (z ∈ ns.take i)) n) := rfl
        have go : ∀ (w' : V) (H' : Hp), (w' = .int z ∧ H' = upd H1 L (SetO X.w L (fun z => decide (z ∈ ns.take i)) n)) → ∃ (k : Int) (S : Int → Bool) (m : Nat), w' = .int k ∧ H' L = some (SetO X.w L S m) ∧ m + 1 < scanBound ∧ (i + 1 ≤ vs.length ∧ ∃ n, n ≤ i + 1 ∧ (upd H' L (SetO X.w L (fun j => S j || decide (j = k)) (if S k = true then m else m + 1))) = upd H1 L (SetO X.w L (fun z => decide (z ∈ ns.take (i + 1))) n)) := by
          rintro w' H' ⟨rfl, rfl⟩
          refine ⟨z, _, n, rfl, upd_same, by unfold scanBound; omega, by omega, (if decide (z ∈ ns.take i) = true then n else n + 1), by split <;> omega, ?_⟩
          rw [upd_upd]
          congr 1
          congr 1
          funext y
          rw [tk]
          by_cases h1 : y ∈ ns.take i <;> by_cases h2 : y = z <;> simp [h1, h2]
        rcases col_rp rw2 hcol with q | q
        · obtain ⟨p1, xs1, i1, v1, a1, a2, a3, a4, a5⟩ := q
          exact .inl ⟨p1, xs1, i1, v1, a1, a2, by rw [hK]; exact a3, a4, go _ _ a5⟩
        · obtain ⟨p1, xs1, i1, v1, a1, a2, a3, a4, a5⟩ := q
          exact .inr ⟨p1, xs1, i1, v1, a1, a2, by rw [hK]; exact a3, a4, go _ _ a5⟩
      have hset : ∀ (u : V), ((wipe σ [jx]).set jx (some u)).length = (wipe σ [jx]).length := fun u => by simp
      have hj : jx < (wipe σ [jx]).length := by
        rw [wipe_length]
        have h1 := I.len
        have h2 := ok.ix (x, jx) (by simp)
        have h3 : jx < X.N.length := (List.getElem?_eq_some_iff.mp h2).1
        omega
      have wip : ∀ u : V, wipe ((wipe σ [jx]).set jx (some u)) [jx] = wipe σ [jx] := fun u => by
        apply List.ext_getElem?
        intro q
        by_cases hq : q = jx
        · subst hq
          rw [wipe_inS (by simp) (by rw [hset]; exact hj), wipe_inS (by simp) (by rw [wipe_length] at hj; exact hj)]
        · rw [wipe_outS (by simpa using hq), List.getElem?_set_ne (Ne.symm hq)]
      rcases hJ with ⟨rfl, hq'⟩ | ⟨rfl, hq'⟩
      · refine ⟨⟨vs, w, sL _ hq', hw⟩, (fun H => i + 1 ≤ vs.length ∧ ∃ n, n ≤ i + 1 ∧ H = upd H1 L (SetO X.w L (fun z => decide (z ∈ ns.take (i + 1))) n)), fun H' hq2 => ⟨vs.length - (i + 1), by omega, rfl, hq2.1, hq2.2⟩, fun x H' y => ?_⟩
        obtain ⟨e4, y⟩ := y
        subst e4
        have := y vs (sL _ hq')
        rw [hw] at this
        cases this
        exact ⟨wip _, body _ (by rw [List.getElem?_set_self hj])⟩
      · refine ⟨⟨vs, w, sT _ hq', hw⟩, (fun H => i + 1 ≤ vs.length ∧ ∃ n, n ≤ i + 1 ∧ H = upd H1 L (SetO X.w L (fun z => decide (z ∈ ns.take (i + 1))) n)), fun H' hq2 => ⟨vs.length - (i + 1), by omega, rfl, hq2.1, hq2.2⟩, fun x H' y => ?_⟩
        obtain ⟨e4, y⟩ := y
        subst e4
        have := y vs (sT _ hq')
        rw [hw] at this
        cases this
        exact ⟨wip _, body _ (by rw [List.getElem?_set_self hj])⟩
    · left
      have ei : i = vs.length := by omega
      subst ei
      refine ⟨?_, L, _, n, rfl, upd_same, by omega, fun out q hs' hmem hl' hq' => ?_⟩
      · rcases hJ with ⟨rfl, hq'⟩ | ⟨rfl, hq'⟩
        · exact ⟨vs, sL _ hq', Nat.le_refl _⟩
        · exact ⟨vs, sT _ hq', Nat.le_refl _⟩
      · have eo : out = srtU ns := asc_eq hs' srtU_ord fun z => by
          rw [hmem z, srtU_mem, decide_eq_true_eq, List.take_of_length_le (by omega)]
        subst eo
        have S3 := S2.new (o := SetO X.w L (fun z => decide (z ∈ ns.take vs.length)) n) (m := none) hL (fun z => absurd rfl z)
        exact hQ _ _ _ _ h1 (S3.newLst hq' (rps_ints _))
  rw [← hK] at hq
  rcases hq with hq | hq
  · exact ⟨a0, vs, rfl, .inl ⟨hq, core _ (.inl ⟨rfl, hq⟩)⟩⟩
  · exact ⟨a0, vs, rfl, .inr ⟨hq, core _ (.inr ⟨rfl, hq⟩)⟩⟩
end
/-! ### reversed -/
def iRev (Te : TEp) : TIp' := fun ρ R E => Te ρ (fun r ρ' => oD (fzC ρ' r) fun p => oD (seqD p.1) fun l => R l.reverse p.2) E
theorem rev_at {l : List D} {vs : List V} {K : PySem.W.Frag} {A : Av} {i : Nat} {d : D} (r : Rps K H A l vs) (h : l.reverse[i]? = some d) : i < l.length ∧ ∃ w, vs[l.length - 1 - i]? = some w ∧ Rp K H A d w := by
  have hi : i < l.length := by have := (List.getElem?_eq_some_iff.mp h).1; simpa using this
  rw [List.getElem?_reverse hi] at h
  exact ⟨hi, r.get h⟩
theorem revL_it {p : Addr} {l : List D} (hK : X.K = c.K) : ItOk c (Itv X.K p l.length) l.reverse [(.ref p, .va (Fz (.lst l)))] := by
  intro σ H ρ τ0 τ i S
  obtain ⟨O, S⟩ := S
  have rp : Rp c.K H (c.av O) (.lst l) (.ref p) := S.tm.app.1
  obtain ⟨a', vs, e, ha, rr⟩ := rp.top.lst
  cases e
  refine ⟨fun d hd => ?_, fun hl => by show l.length ≤ i; simpa using hl⟩
  obtain ⟨hi, w, hw, rw'⟩ := rev_at rr hd
  refine ⟨⟨hi, vs, w, SqL.of ha, hw⟩, fun x H' y => ?_⟩
  obtain ⟨e1, y⟩ := y
  subst e1
  have := y vs (SqL.of ha)
  rw [hw] at this
  cases this
  exact ⟨O, S, rw'⟩
theorem revT_it {p : Addr} {l : List D} (hK : X.K = c.K) : ItOk c (RT.ItvT X.K p l.length) l.reverse [(.ref p, .va (Fz (.tup l)))] := by
  intro σ H ρ τ0 τ i S
  obtain ⟨O, S⟩ := S
  have rp : Rp c.K H (c.av O) (.tup l) (.ref p) := S.tm.app.1
  obtain ⟨a', vs, e, ha, rr⟩ := rp.top.tup
  cases e
  rw [← hK] at ha
  refine ⟨fun d hd => ?_, fun hl => by show l.length ≤ i; simpa using hl⟩
  obtain ⟨hi, w, hw, rw'⟩ := rev_at rr hd
  refine ⟨⟨hi, vs, w, ha, hw⟩, fun x H' y => ?_⟩
  obtain ⟨e1, y⟩ := y
  subst e1
  have := y vs ha
  rw [hw] at this
  cases this
  exact ⟨O, S, rw'⟩
theorem i_rev {tg : Expr} {p : Pos} (hm : X.mg "reversed" = none) (he : PEp c ek fl X e Te) (hK : X.K = c.K := by rfl) (hg : Gl X "reversed" := by rfl) (hs : starEach [e] X.env = (false, eval e X.env) :: starEach [] X.env := by rfl) : PIp' c ek fl X tg (.Call (.Name "reversed" p) [e] [] pos) (iRev Te) := by
  refine ⟨fun pins s σ H Q I h => ?_⟩
  obtain ⟨ρ, τ, R0, E0, S, hT, q, q5⟩ := h
  refine (RT.pi_revA hg hm he hs).run pins s σ H Q I ⟨ρ, τ, _, _, S, hT, fun r ρ' v H' h1 S1 => ?_, q5⟩
  obtain ⟨pr, e1, h1⟩ := h1.of
  obtain ⟨l, e2, h1⟩ := h1.of
  obtain ⟨d0, ρ2⟩ := pr
  obtain ⟨O, S1⟩ := S1
  obtain ⟨O2, S2, rp, _⟩ := fzC_ok S1 e1
  have nal : ∀ d a, NoAl [((V.ref a), R.va (Fz d))] := fun d a v r m => by rcases List.mem_cons.mp m with e | m; cases e; exact ⟨_, rfl⟩; cases m
  cases d0 <;> cases e2
  · obtain ⟨a, vs, rfl, ha, rr⟩ := rp.top.tup
    exact ⟨a, vs, rfl, .inr ⟨by rw [hK]; exact ha, by rw [rr.length]; exact q _ _ _ _ _ h1 (revT_it hK) (nal _ _) ⟨O2, S2.push rp⟩⟩⟩
  · obtain ⟨a, vs, rfl, ha, rr⟩ := rp.top.lst
    exact ⟨a, vs, rfl, .inl ⟨SqL.of ha, by rw [rr.length]; exact q _ _ _ _ _ h1 (revL_it hK) (nal _ _) ⟨O2, S2.push rp⟩⟩⟩
end
end Pm

namespace Pm
open PySem PySem.Spec PyProof.Rows L2
section
variable {ρ : En} {Rr : R → En → Prop} {Ee : Exn → En → Prop} {E : Ep} {i j : Nat} {nm f g m : Str} {d : D} {l : List D} {fs : List (Str × FC)} {ct : Ct} {fc : FC} {Te Td Tk Ta To : TEp} {TA : TAp} {φ : Fn} {ms : List Bool} {dcs : List D} {kvs : List (Key × D)} {key : Key}
/-! ### equations for classes, dicts, .. -/
def fdL (i : Nat) (f : Str) (ρ : En) (Rr : R → En → Prop) : Option FC → Prop
  | some (.fz d) => Rr (.va (Fz d)) ρ
  | some _ => Rr (.alf i f) ρ
  | none => False
def fdK (nm : Str) (i : Nat) (f : Str) (ρ : En) (Rr : R → En → Prop) : Option Ct → Prop
  | some (.ob nm' fs) => nm' = nm ∧ fdL i f ρ Rr (fs.lookup f)
  | _ => False
theorem e_fd : tFd nm i f ρ Rr Ee = fdK nm i f ρ Rr ρ[i]? := by
  unfold tFd
  cases ρ[i]? with
  | none => rfl
  | some ct =>
    cases ct with
    | ob nm' fs =>
      show (nm' = nm ∧ _) = (nm' = nm ∧ fdL i f ρ Rr (fs.lookup f))
      generalize fs.lookup f = o
      cases o with
      | none => rfl
      | some x => cases x <;> rfl
    | _ => rfl
theorem fd_ob : fdK nm i f ρ Rr (some (.ob nm fs)) = fdL i f ρ Rr (fs.lookup f) := by unfold fdK; simp
theorem fd_fz : fdL i f ρ Rr (some (.fz d)) = Rr (.va (Fz d)) ρ := rfl
theorem fd_ow : fdL i f ρ Rr (some (.ow l)) = Rr (.alf i f) ρ := rfl
theorem fd_dk : fdL i f ρ Rr (some (.dk kvs)) = Rr (.alf i f) ρ := rfl
def lkS {α : Type} (f : Str) : List (Str × α) → Option α := fun fs => fs.lookup f
theorem lk_hit {α : Type} {x : α} {r : List (Str × α)} : List.lookup f ((f, x) :: r) = some x := by rw [List.lookup_cons, beq_self_eq_true]
theorem lk_miss {α : Type} {x : α} {r : List (Str × α)} (h : (f == g) = false) : List.lookup f ((g, x) :: r) = List.lookup f r := by rw [List.lookup_cons, h]
theorem lk_nil {α : Type} : List.lookup f ([] : List (Str × α)) = none := rfl
theorem pt_hit {α : Type} {x y : α} {r : List (Str × α)} : putA f y ((f, x) :: r) = (f, y) :: r := by unfold putA; rw [if_pos rfl]
theorem pt_miss {α : Type} {x y : α} {r : List (Str × α)} (h : (f == g) = false) : putA f y ((g, x) :: r) = (g, x) :: putA f y r := by
  have : ¬ f = g := by simpa using h
  show (if f = g then _ else _) = _
  rw [if_neg this]
theorem pt_nil {α : Type} {y : α} : putA f y [] = [(f, y)] := rfl
theorem nA_alf {k : Prop} : nA (.alf i f) k = False := rfl
-- views of a field
def afV (f : Str) : Option Ct → Option D
  | some (.ob _ fs) => (fs.lookup f).bind fcD
  | _ => none
theorem vw_alf : vw ρ (.alf i f) = afV f ρ[i]? := by
  unfold vw
  show (match ρ[i]? with | some (.ob _ fs) => fs.lookup f | _ => none : Option FC).bind fcD = _
  cases ρ[i]? with
  | none => rfl
  | some ct => cases ct <;> rfl
theorem af_ob : afV f (some (.ob nm fs)) = (fs.lookup f).bind fcD := rfl
theorem fcD_fz : fcD (.fz d) = some d := rfl
theorem fcD_ow : fcD (.ow l) = some (.lst l) := rfl
theorem fcD_dk : fcD (.dk kvs) = none := rfl
def afF (f : Str) : Option Ct → Option FC
  | some (.ob _ fs) => fs.lookup f
  | _ => none
def alF : Option Ct → Option FC
  | some (.at fc) => some fc
  | _ => none
theorem cf_alf : ctF ρ (.alf i f) = afF f ρ[i]? := by
  show (match ρ[i]? with | some (.ob _ fs) => fs.lookup f | _ => none : Option FC) = _
  cases ρ[i]? with
  | none => rfl
  | some ct => cases ct <;> rfl
theorem cf_al : ctF ρ (.al i) = alF ρ[i]? := by
  show (match ρ[i]? with | some (.at f) => some f | _ => none : Option FC) = _
  cases ρ[i]? with
  | none => rfl
  | some ct => cases ct <;> rfl
theorem cf_va : ctF ρ (.va (.at fc)) = some fc := rfl
theorem afF_ob : afF f (some (.ob nm fs)) = fs.lookup f := rfl
theorem alF_at : alF (some (.at fc)) = some fc := rfl
-- freezing a field
def afZ2 (i : Nat) (nm f : Str) (fs : List (Str × FC)) (ρ : En) : Option FC → Option (D × En)
  | some (.fz d) => some (d, ρ)
  | some (.ow l) => some (.lst l, ρ.set i (.ob nm (putA f (.fz (.lst l)) fs)))
  | _ => none
def afZ (i : Nat) (f : Str) (ρ : En) : Option Ct → Option (D × En)
  | some (.ob nm fs) => afZ2 i nm f fs ρ (fs.lookup f)
  | _ => none
theorem fzC_alf : fzC ρ (.alf i f) = afZ i f ρ ρ[i]? := by
  show (match ρ[i]? with
    | some (.ob nm fs) => match fs.lookup f with
      | some (.fz d) => some (d, ρ)
      | some (.ow l) => some (.lst l, ρ.set i (.ob nm (putA f (.fz (.lst l)) fs)))
      | _ => none
    | _ => none) = _
  cases ρ[i]? with
  | none => rfl
  | some ct =>
    cases ct with
    | ob nm fs =>
      show _ = afZ2 i nm f fs ρ (fs.lookup f)
      dsimp only
      cases fs.lookup f with
      | none => rfl
      | some x => cases x <;> rfl
    | _ => rfl
theorem afZ_ob : afZ i f ρ (some (.ob nm fs)) = afZ2 i nm f fs ρ (fs.lookup f) := rfl
theorem afZ_fz : afZ2 i nm f fs ρ (some (.fz d)) = some (d, ρ) := rfl
theorem afZ_ow : afZ2 i nm f fs ρ (some (.ow l)) = some (.lst l, ρ.set i (.ob nm (putA f (.fz (.lst l)) fs))) := rfl
theorem stC_alf {k : Ct → En → Prop} : stC ρ (.alf i f) k = oD (fzC ρ (.alf i f)) fun p => k (Fz p.1) p.2 := by
  show (match fzC ρ (.alf i f) with | some (d, ρ') => k (Fz d) ρ' | none => False) = _
  cases fzC ρ (.alf i f) <;> rfl
-- stores
def sfdK (nm : Str) (i : Nat) (f : Str) (ρ : En) (E : Ep) : Ct → Option Ct → Prop
  | .at fc, some (.ob nm' fs) => nm' = nm ∧ fs.length < 1000 ∧ E.nx (ρ.set i (.ob nm (putA f fc fs)))
  | _, _ => False
theorem e_sFd : sFd nm i f Te ρ E = Te ρ (fun r ρ' => stC ρ' r fun ct ρ'' => sfdK nm i f ρ'' E ct ρ''[i]?) E.ex := by
  unfold sFd sfdK
  rfl
theorem sfd_at : sfdK nm i f ρ E (.at fc) (some (.ob nm fs)) = (fs.length < 1000 ∧ E.nx (ρ.set i (.ob nm (putA f fc fs)))) := by unfold sfdK; simp
-- methods
def meK (nm : Str) (i : Nat) (m : Str) (φ : Fn) (ms : List Bool) (dcs : List D) (TA : TAp) (ρ : En) (Rr : R → En → Prop) (Ee : Exn → En → Prop) : Option Ct → Prop
  | some (.ob nm' fs) => nm' = nm ∧ fs.lookup m = none ∧ TA ρ (fun rs ρ1 => callK φ (true :: ms) dcs (.al i :: rs) ρ1 Rr Ee) Ee
  | _ => False
theorem e_me : tMe nm i m φ ms dcs TA ρ Rr Ee = meK nm i m φ ms dcs TA ρ Rr Ee ρ[i]? := by
  unfold tMe meK
  cases ρ[i]? with
  | none => rfl
  | some ct => cases ct <;> rfl
def oN {α : Type} : Option α → Prop → Prop
  | none, p => p
  | some _, _ => False
theorem oN_none {α : Type} {p : Prop} : oN (none : Option α) p = p := rfl
theorem me_ob : meK nm i m φ ms dcs TA ρ Rr Ee (some (.ob nm fs)) = oN (fs.lookup m) (TA ρ (fun rs ρ1 => callK φ (true :: ms) dcs (.al i :: rs) ρ1 Rr Ee) Ee) := by
  show (nm = nm ∧ fs.lookup m = none ∧ _) = _
  cases fs.lookup m with
  | none => simp [oN]
  | some x => simp [oN]
theorem isOw_ob : isOw (.ob nm fs) = true := rfl
theorem e_mk {k : Nat} : tMk nm k φ dcs TA ρ Rr Ee = TA ρ (fun rs ρ1 => rs.length = k ∧ fzK ρ1 rs fun ds ρ2 => φ (.ob nm [] :: (ds.map Fz ++ dcs.map Fz)) (fun r cs' => r = Fz .non ∧ Rr (.va (cs'.headD .no)) ρ2) (fun _ _ => False)) Ee := rfl
theorem hd_cons {cs : List Ct} : (ct :: cs).headD .no = ct := rfl
-- list methods on a field
def muR1 (f : MuF) (r : R) (TA : TAp) (ρ : En) (Rr : R → En → Prop) (Ee : Exn → En → Prop) : Option FC → Prop
  | some (.ow _) => TA ρ (fun rs ρ2 => fzK ρ2 rs fun ds ρ3 => match ctF ρ3 r with
    | some (.ow l) => f l ds fun res l' => Rr (.va (Fz res)) (setR ρ3 r (.ow l'))
    | _ => False) Ee
  | _ => False
def muR2 (f : MuF) (r : R) (ds : List D) (ρ : En) (Rr : R → En → Prop) : Option FC → Prop
  | some (.ow l) => f l ds fun res l' => Rr (.va (Fz res)) (setR ρ r (.ow l'))
  | _ => False
theorem e_muR {f : MuF} : tMuR f To TA ρ Rr Ee = To ρ (fun r ρ1 => isPl r = true ∧ muR1 f r TA ρ1 Rr Ee (ctF ρ1 r)) Ee := by
  rfl
theorem muR1_ow {f : MuF} {r : R} : muR1 f r TA ρ Rr Ee (some (.ow l)) = TA ρ (fun rs ρ2 => fzK ρ2 rs fun ds ρ3 => muR2 f r ds ρ3 Rr (ctF ρ3 r)) Ee := rfl
theorem muR2_ow {f : MuF} {r : R} {ds : List D} : muR2 f r ds ρ Rr (some (.ow l)) = f l ds fun res l' => Rr (.va (Fz res)) (setR ρ r (.ow l')) := rfl
theorem isPl_al : (isPl (.al i) = true) = True := eq_true rfl
theorem isPl_alf : (isPl (.alf i f) = true) = True := eq_true rfl
theorem setR_al : setR ρ (.al i) fc = ρ.set i (.at fc) := rfl
def setRf (i : Nat) (f : Str) (fc : FC) (ρ : En) : Option Ct → En
  | some (.ob nm fs) => ρ.set i (.ob nm (putA f fc fs))
  | _ => ρ
theorem setR_alf : setR ρ (.alf i f) fc = setRf i f fc ρ ρ[i]? := by
  show (match ρ[i]? with | some (.ob nm fs) => ρ.set i (.ob nm (putA f fc fs)) | _ => ρ) = _
  cases ρ[i]? with
  | none => rfl
  | some ct => cases ct <;> rfl
theorem setRf_ob : setRf i f fc ρ (some (.ob nm fs)) = ρ.set i (.ob nm (putA f fc fs)) := rfl
-- dicts
theorem e_dn : tDn ρ Rr Ee = Rr (.va (.at (.dk []))) ρ := rfl
def dk2 (k : List (Key × D) → Key → Prop) (kvs : List (Key × D)) : Option Key → Prop
  | some key => k kvs key
  | none => False
def dk1 (o : Option D) (k : List (Key × D) → Key → Prop) : Option FC → Prop
  | some (.dk kvs) => oD o fun d => dk2 k kvs (keyD d)
  | _ => False
theorem e_dkK {r rk : R} {k : List (Key × D) → Key → Prop} : dkK ρ r rk k = dk1 (vw ρ rk) k (ctF ρ r) := by
  unfold dkK dk1
  cases ctF ρ r with
  | none => rfl
  | some fc =>
    cases fc with
    | dk kvs =>
      dsimp only
      unfold wD oD
      cases vw ρ rk with
      | none => rfl
      | some d =>
        dsimp only
        unfold dk2
        cases keyD d <;> rfl
    | _ => rfl
theorem dk1_dk {o : Option D} {k : List (Key × D) → Key → Prop} : dk1 o k (some (.dk kvs)) = oD o fun d => dk2 k kvs (keyD d) := rfl
theorem dk2_k {k : List (Key × D) → Key → Prop} : dk2 k kvs (some key) = k kvs key := rfl
theorem kD_int {n : Int} : keyD (.int n) = some (.inl n) := rfl
theorem kD_str {x : Str} : keyD (.str x) = some (.inr x) := rfl
theorem e_wD {o : Option D} {k : D → Prop} : wD o k = oD o k := by cases o <;> rfl
theorem e_dg : tDg Td Tk ρ Rr Ee = Td ρ (fun r ρ1 => Tk ρ1 (fun rk ρ2 => dkK ρ2 r rk fun kvs key => oD (dkGet kvs key) fun d => Rr (.va (Fz d)) ρ2) Ee) Ee := by
  unfold tDg
  simp only [e_wD]
theorem e_di {neg : Bool} : tDi neg Tk Td ρ Rr Ee = Tk ρ (fun rk ρ1 => nA rk <| Td ρ1 (fun r ρ2 => dkK ρ2 r rk fun kvs key => Rr (.va (Fz (.bl (neg != (dkGet kvs key).isSome)))) ρ2) Ee) Ee := rfl
theorem e_diT {neg : Bool} {Rb : Bool → En → Prop} : tDiT neg Tk Td ρ Rb Ee = Tk ρ (fun rk ρ1 => nA rk <| Td ρ1 (fun r ρ2 => dkK ρ2 r rk fun kvs key => Rb (neg != (dkGet kvs key).isSome) ρ2) Ee) Ee := rfl
theorem e_dp : sDp Td Tk Te ρ E = Te ρ (fun r ρ1 => oD (fzC ρ1 r) fun p => Td p.2 (fun rd ρ3 => isPl rd = true ∧ Tk ρ3 (fun rk ρ4 => dkK ρ4 rd rk fun kvs key => kvs.length < sizeLine ∧ E.nx (setR ρ4 rd (.dk (dkPut kvs key p.1)))) E.ex) E.ex) E.ex := by
  unfold sDp
  congr 1
  funext r ρ1
  cases fzC ρ1 r with
  | none => rfl
  | some p => rfl
theorem e_keyK {r : R} {k : Key → Prop} : keyK ρ r k = oD (vw ρ r) fun d => dk2 (fun _ key => k key) [] (keyD d) := by
  unfold keyK wD oD
  cases vw ρ r with
  | none => rfl
  | some d =>
    dsimp only
    unfold dk2
    cases keyD d <;> rfl
theorem e_dcc {TI : TIp'} {g : Tg} {tt : TTp} {own : List Nat} : tDcc TI g tt Tk Te own ρ Rr Ee = TI ρ (fun ds ρ1 => dcK g tt Tk Te own Ee Rr ds [] (wipeE ρ1 own)) Ee := rfl
theorem dc_nil {g : Tg} {tt : TTp} {own : List Nat} : dcK g tt Tk Te own Ee Rr [] kvs ρ = Rr (.va (.at (.dk kvs))) ρ := rfl
theorem dc_cons {g : Tg} {tt : TTp} {own : List Nat} {ds : List D} : dcK g tt Tk Te own Ee Rr (d :: ds) kvs ρ = oD (tgK g d (wipeE ρ own)) fun ρ2 => tt ρ2 (fun b ρ3 => if b = true then Tk ρ3 (fun rk ρ4 => keyK ρ4 rk fun key => Te ρ4 (fun r ρ5 => oD (fzC ρ5 r) fun p => kvs.length < sizeLine ∧ dcK g tt Tk Te own Ee Rr ds (dkPut kvs key p.1) (wipeE p.2 own)) Ee) Ee else dcK g tt Tk Te own Ee Rr ds kvs (wipeE ρ3 own)) Ee := rfl
theorem e_srt {k : Int} : tSrt k Te ρ Rr Ee = Te ρ (fun r ρ1 => oD (fzC ρ1 r) fun p => oD (seqD p.1) fun l => oD (colI k l) fun ns => ns.length < 64 ∧ Rr (.va (Wl ((srtU ns).map .int))) p.2) Ee := rfl
theorem seqD_l : seqD (.lst l) = some l := rfl
theorem seqD_t : seqD (.tup l) = some l := rfl
theorem e_rev {Rl : List D → En → Prop} : iRev Te ρ Rl Ee = Te ρ (fun r ρ' => oD (fzC ρ' r) fun p => oD (seqD p.1) fun l => Rl l.reverse p.2) Ee := rfl
theorem f_lcm {a b : Int} {Rd : D → Prop} : fLcm (.int a) (.int b) Rd = ((a.natAbs.log2 < 9000 ∧ b.natAbs.log2 < 9000) ∧ Rd (.int ((Nat.lcm a.natAbs b.natAbs : Nat) : Int))) := rfl
end
theorem str_map_inj : ∀ {l m : List Str}, l.map D.str = m.map D.str → l = m
  | [], [], _ => rfl
  | [], _ :: _, h => by cases h
  | _ :: _, [], h => by cases h
  | x :: l, y :: m, h => by
    rw [List.map_cons, List.map_cons] at h
    injection h with h1 h2
    injection h1 with h1
    rw [h1, str_map_inj h2]
theorem c_inT {a : Str} {ss : List Str} {Q : Bool → Prop} : opC .In (.str a) (.tup (ss.map .str)) Q = Q (decide (a ∈ ss)) := by
  show (∃ s2 : List Str, ss.map D.str = s2.map .str ∧ Q (decide (a ∈ s2))) = _
  exact propext ⟨fun ⟨s2, e, h⟩ => by rw [str_map_inj e]; exact h, fun h => ⟨ss, rfl, h⟩⟩
theorem c_ninT {a : Str} {ss : List Str} {Q : Bool → Prop} : opC .NotIn (.str a) (.tup (ss.map .str)) Q = Q (!decide (a ∈ ss)) := by
  show (∃ s2 : List Str, ss.map D.str = s2.map .str ∧ Q (!decide (a ∈ s2))) = _
  exact propext ⟨fun ⟨s2, e, h⟩ => by rw [str_map_inj e]; exact h, fun h => ⟨ss, rfl, h⟩⟩
-- the names of attributes differ
theorem nq_1 : (("rows" : Str) == "free") = false := by decide +kernel
theorem nq_2 : (("load" : Str) == "free") = false := by decide +kernel
theorem nq_3 : (("load" : Str) == "rows") = false := by decide +kernel
theorem nq_4 : (("length" : Str) == "free") = false := by decide +kernel
theorem nq_5 : (("length" : Str) == "rows") = false := by decide +kernel
theorem nq_6 : (("densest" : Str) == "free") = false := by decide +kernel
theorem nq_7 : (("densest" : Str) == "rows") = false := by decide +kernel
end Pm

namespace Pm
open PySem PySem.Spec PyProof.Rows L2
/-! ### sizes -/
def Bs (n : Nat) (i : Int) : Prop := i.natAbs < 2 ^ n
theorem Bs.mono {n m : Nat} {i : Int} (h : Bs n i) (hm : n ≤ m) : Bs m i := Nat.lt_of_lt_of_le h (Nat.pow_le_pow_right (by omega) hm)
theorem Bs.neg {n : Nat} {i : Int} (h : Bs n i) : Bs n (-i) := by unfold Bs at *; rw [Int.natAbs_neg]; exact h
theorem Bs.mul {n m : Nat} {i j : Int} (h : Bs n i) (h' : Bs m j) : Bs (n + m) (i * j) := by
  unfold Bs at *
  rw [Int.natAbs_mul, Nat.pow_add]
  exact Nat.mul_lt_mul'' h h'
theorem Bs.add {n m : Nat} {i j : Int} (h : Bs n i) (h' : Bs m j) : Bs (max n m + 1) (i + j) := by
  unfold Bs at *
  have a := Nat.pow_le_pow_right (show 0 < 2 by omega) (Nat.le_max_left n m)
  have b := Nat.pow_le_pow_right (show 0 < 2 by omega) (Nat.le_max_right n m)
  rw [Nat.pow_succ]
  have := Int.natAbs_add_le i j
  omega
theorem Bs.sub {n m : Nat} {i j : Int} (h : Bs n i) (h' : Bs m j) : Bs (max n m + 1) (i - j) := by
  rw [Int.sub_eq_add_neg]; exact h.add h'.neg
theorem Bs.log {n : Nat} {i : Int} (h : Bs n i) : i.natAbs.log2 < n ∨ i = 0 := by
  by_cases h0 : i = 0
  · exact .inr h0
  · exact .inl ((Nat.log2_lt (by omega)).mpr h)
theorem Bs.div {n : Nat} {i : Int} (h : Bs n i) (h0 : i ≠ 0) (hn : n ≤ 9000) : DivOk i := ⟨h0, by
  rcases h.log with z | z
  · omega
  · exact absurd z h0⟩
theorem Bs.mulOk {n m : Nat} {i j : Int} (h : Bs n i) (h' : Bs m j) (hn : n + m < 1000000) : MulOk i j := by
  unfold MulOk
  have a : i.natAbs.log2 ≤ n := by
    rcases h.log with z | z
    · omega
    · subst z; simp
  have b : j.natAbs.log2 ≤ m := by
    rcases h'.log with z | z
    · omega
    · subst z; simp
  omega
theorem Bs.le {n : Nat} {i j : Int} (h : Bs n j) (hi : i.natAbs ≤ j.natAbs) : Bs n i := Nat.lt_of_le_of_lt hi h
theorem Bs.of {n : Nat} {i : Int} {k : Nat} (h1 : i.natAbs ≤ k) (h2 : k < 2 ^ n) : Bs n i := Nat.lt_of_le_of_lt h1 h2
theorem line_small {n : Nat} (h : n ≤ 16777216) : n ≤ sizeLine := by rw [sizeLine_eq]; exact h
theorem fr1 {n : Nat} {d d2 : D} (lock : List Nat) : ∀ i ct, [Fz d, Fz d2][i]? = some ct → isOw ct = true → i ∈ lock := by
  intro i ct h1 h2
  match i, h1 with
  | 0, h1 => cases h1; cases h2
  | 1, h1 => cases h1; cases h2
/-- no content is owned: any list of them -/
theorem noOw {cs : List Ct} (lock : List Nat) (h : cs.all (fun c => !isOw c) = true) : ∀ i ct, cs[i]? = some ct → isOw ct = true → i ∈ lock := by
  intro i ct h1 h2
  have := List.all_eq_true.mp h ct (List.mem_of_getElem? h1)
  rw [h2] at this; cases this
/-- only the first is owned -/
theorem ow0 {c0 : Ct} {cs : List Ct} (h : cs.all (fun c => !isOw c) = true) : ∀ i ct, (c0 :: cs)[i]? = some ct → isOw ct = true → i ∈ [0] := by
  intro i ct h1 h2
  cases i with
  | zero => simp
  | succ i =>
    have := List.all_eq_true.mp h ct (List.mem_of_getElem? (by simpa using h1))
    rw [h2] at this; cases this

/-! ### ratios -/
def rat (p : Int × Int) : D := .tup [.int p.1, .int p.2]
def mkR (a b : Int) : Int × Int := if b < 0 then ((-a) / (Nat.gcd a.natAbs b.natAbs : Nat), (-b) / (Nat.gcd a.natAbs b.natAbs : Nat)) else (a / (Nat.gcd a.natAbs b.natAbs : Nat), b / (Nat.gcd a.natAbs b.natAbs : Nat))
theorem gcd_pos' {a b : Int} (h : b ≠ 0) : 0 < Nat.gcd a.natAbs b.natAbs := Nat.gcd_pos_of_pos_right _ (by omega)
theorem gcd_ok' {n : Nat} {a b : Int} (h : b ≠ 0) (hb : Bs n b) (hn : n ≤ 9000) : DivOk ((Nat.gcd a.natAbs b.natAbs : Nat) : Int) := by
  have hp := gcd_pos' (a := a) h
  refine Bs.div (n := n) ?_ (by omega) hn
  refine hb.le ?_
  have := Nat.le_of_dvd (by omega) (Nat.gcd_dvd_right a.natAbs b.natAbs)
  simpa using this
/-- a rational number as the program holds it -/
def rq (q : Rat) : D := .tup [.int q.num, .int (q.den : Int)]
theorem rat_mkR {a b : Int} (hb : b ≠ 0) : rat (mkR a b) = rq ((a : Rat) / (b : Rat)) := by
  rw [← Rat.divInt_eq_div]
  unfold rat rq
  rw [Rat.num_divInt, Rat.den_divInt, if_neg hb]
  have hg : b.gcd a = Nat.gcd a.natAbs b.natAbs := by unfold Int.gcd; exact Nat.gcd_comm _ _
  rw [hg]
  have hd : ((b.natAbs / Nat.gcd a.natAbs b.natAbs : Nat) : Int) = (b.natAbs : Int) / (Nat.gcd a.natAbs b.natAbs : Nat) := by omega
  rw [hd]
  unfold mkR
  by_cases h : b < 0
  · rw [if_pos h, Int.sign_eq_neg_one_of_neg h]
    have e1 : (-1 : Int) * a = -a := by omega
    have e2 : (b.natAbs : Int) = -b := by omega
    rw [e1, e2]
  · rw [if_neg h, Int.sign_eq_one_of_pos (by omega)]
    have e2 : (b.natAbs : Int) = b := by omega
    rw [Int.one_mul, e2]
def Bq (n : Nat) (q : Rat) : Prop := Bs n q.num ∧ Bs n (q.den : Int)
theorem Bq.mono {n m : Nat} {q : Rat} (h : Bq n q) (hm : n ≤ m) : Bq m q := ⟨h.1.mono hm, h.2.mono hm⟩
theorem den_ne (q : Rat) : (q.den : Int) ≠ 0 := by have := q.den_pos; omega
theorem denR_ne (q : Rat) : ((q.den : Int) : Rat) ≠ 0 := fun h => den_ne q (by exact_mod_cast h)
theorem Bq.div {n : Nat} {a b : Int} (ha : Bs n a) (hb : Bs n b) (h0 : b ≠ 0) : Bq n ((a : Rat) / (b : Rat)) := by
  rw [← Rat.divInt_eq_div]
  refine ⟨ha.le ?_, hb.le ?_⟩
  · rw [Rat.num_divInt]
    have e1 : (b.sign * a).natAbs ≤ a.natAbs := by
      rw [Int.natAbs_mul]
      have : b.sign.natAbs ≤ 1 := by rw [Int.natAbs_sign]; split <;> omega
      calc b.sign.natAbs * a.natAbs ≤ 1 * a.natAbs := Nat.mul_le_mul_right _ this
        _ = a.natAbs := Nat.one_mul _
    refine Nat.le_trans ?_ e1
    exact Int.natAbs_ediv_le_natAbs _ _
  · rw [Rat.den_divInt, if_neg h0]
    simp only [Int.natAbs_natCast]
    exact Nat.div_le_self _ _
theorem Bq.int {n : Nat} {a : Int} (h : Bs n a) (hn : 1 ≤ n) : Bq n (a : Rat) := by
  refine ⟨by rw [Rat.num_intCast]; exact h, by rw [Rat.den_intCast]; exact Bs.of (k := 1) (by decide) (Nat.lt_of_lt_of_le (by decide : 1 < 2 ^ 1) (Nat.pow_le_pow_right (by omega) hn))⟩
theorem num_eq (q : Rat) : ((q.num : Int) : Rat) = q * ((q.den : Int) : Rat) := by
  have h := Rat.num_divInt_den q
  rw [Rat.divInt_eq_div] at h
  have hd := denR_ne q
  grind
/-! evaluation of ratios -/
theorem ix_rq0 {q : Rat} {Q : D → Prop} : ixD (rq q) (.int 0) Q = Q (.int q.num) := rfl
theorem ix_rq1 {q : Rat} {Q : D → Prop} : ixD (rq q) (.int 1) Q = Q (.int (q.den : Int)) := rfl
theorem rq_inj {p q : Rat} : rq p = rq q ↔ p = q := by
  constructor
  · intro h
    unfold rq at h
    simp only [D.tup.injEq, List.cons.injEq, D.int.injEq, and_true] at h
    exact Rat.ext h.1 (by omega)
  · intro h; rw [h]
theorem eqD_rq {p q : Rat} : eqD (rq p) (rq q) = decide (p = q) := by
  unfold rq
  rw [eqD_rat]
  by_cases h : p = q
  · subst h; simp
  · rw [decide_eq_false h]
    by_cases h1 : p.num = q.num
    · have h2 : ¬ (p.den : Int) = (q.den : Int) := fun z => h (Rat.ext h1 (by omega))
      simp [h2]
    · simp [h1]
theorem c_eqR {p q : Rat} {Q : Bool → Prop} : opC .Eq (rq p) (rq q) Q = Q (decide (p = q)) := by
  have e : opC .Eq (rq p) (rq q) Q = (shp (rq p) ∧ shp (rq q) ∧ Q (eqD (rq p) (rq q))) := rfl
  rw [e, eqD_rq]
  exact propext ⟨fun h => h.2.2, fun h => ⟨rfl, rfl, h⟩⟩
theorem c_neR {p q : Rat} {Q : Bool → Prop} : opC .NotEq (rq p) (rq q) Q = Q (!decide (p = q)) := by
  have e : opC .NotEq (rq p) (rq q) Q = (shp (rq p) ∧ shp (rq q) ∧ Q (!eqD (rq p) (rq q))) := rfl
  rw [e, eqD_rq]
  exact propext ⟨fun h => h.2.2, fun h => ⟨rfl, rfl, h⟩⟩
theorem rq_int (a : Int) : rq (a : Rat) = .tup [.int a, .int 1] := by
  unfold rq
  rw [Rat.num_intCast, Rat.den_intCast]
  rfl
theorem rq_zero : rq 0 = .tup [.int 0, .int 1] := rfl
theorem c_eqR0 {p : Rat} {Q : Bool → Prop} : opC .Eq (rq p) (.tup [.int 0, .int 1]) Q = Q (decide (p = 0)) := c_eqR (q := 0)
theorem c_neR0 {p : Rat} {Q : Bool → Prop} : opC .NotEq (rq p) (.tup [.int 0, .int 1]) Q = Q (!decide (p = 0)) := c_neR (q := 0)
theorem isNon_rq {p : Rat} : isNon (rq p) = false := rfl
theorem shp_rqT {p : Rat} : shp (rq p) = True := eq_true rfl
theorem clsD_rq_tuple {p : Rat} : clsD "tuple" (rq p) = some true := rfl
theorem f_len_rq {p : Rat} {Q : D → Prop} : fLen (rq p) Q = Q (.int 2) := rfl
/-! points -/
def pt (p : Int × Int) : D := .tup [.int p.1, .int p.2]
theorem ix_pt0 {p : Int × Int} {Q : D → Prop} : ixD (pt p) (.int 0) Q = Q (.int p.1) := rfl
theorem ix_pt1 {p : Int × Int} {Q : D → Prop} : ixD (pt p) (.int 1) Q = Q (.int p.2) := rfl
theorem atI_map {α : Type} {f : α → D} {l : List α} {k : Nat} {a : α} (h : l[k]? = some a) : atI (l.map f) (k : Int) = some (f a) := by
  rw [atI_nat (List.getElem?_eq_getElem (by rw [List.length_map]; exact (List.getElem?_eq_some_iff.mp h).1))]
  simp [(List.getElem?_eq_some_iff.mp h).2]
theorem div_one_r {a : Int} : (a : Rat) / ((1 : Int) : Rat) = (a : Rat) := by
  have h1 : ((1 : Int) : Rat) = 1 := rfl
  rw [h1]; grind
instance {n : Nat} {a : Int} : Decidable (Bs n a) := inferInstanceAs (Decidable (a.natAbs < 2 ^ n))
theorem Bs.small {a : Int} (h1 : -1000000000000000000 ≤ a) (h2 : a ≤ 1000000000000000000) : Bs 60 a := by
  unfold Bs
  have : (2 : Nat) ^ 60 = 1152921504606846976 := by decide
  omega
theorem mulS {a b : Int} (h1 : -1000000000000000000 ≤ a ∧ a ≤ 1000000000000000000) (h2 : -1000000000000000000 ≤ b ∧ b ≤ 1000000000000000000) : MulOk a b := (Bs.small h1.1 h1.2).mulOk (Bs.small h2.1 h2.2) (by omega)
theorem sz0 : ((0 : Nat) ≤ sizeLine) = True := eq_true (by decide)
theorem sz1 : ((0 + 1 : Nat) ≤ sizeLine) = True := eq_true (by decide)
theorem sz2 : ((0 + 1 + 1 : Nat) ≤ sizeLine) = True := eq_true (by decide)
theorem sz3 : ((0 + 1 + 1 + 1 : Nat) ≤ sizeLine) = True := eq_true (by decide)
theorem sz4 : ((0 + 1 + 1 + 1 + 1 : Nat) ≤ sizeLine) = True := eq_true (by decide)
theorem sz5 : ((0 + 1 + 1 + 1 + 1 + 1 : Nat) ≤ sizeLine) = True := eq_true (by decide)
theorem sz6 : ((0 + 1 + 1 + 1 + 1 + 1 + 1 : Nat) ≤ sizeLine) = True := eq_true (by decide)
theorem sz7 : ((0 + 1 + 1 + 1 + 1 + 1 + 1 + 1 : Nat) ≤ sizeLine) = True := eq_true (by decide)
theorem sz8 : ((0 + 1 + 1 + 1 + 1 + 1 + 1 + 1 + 1 : Nat) ≤ sizeLine) = True := eq_true (by decide)
/-! ### the arithmetic of ratios: the program's -/
theorem add_q (p q : Rat) : ((p.num * (q.den : Int) + q.num * (p.den : Int) : Int) : Rat) / (((p.den : Int) * (q.den : Int) : Int) : Rat) = p + q := by
  rw [Rat.intCast_add, Rat.intCast_mul, Rat.intCast_mul, Rat.intCast_mul, num_eq p, num_eq q]
  have h1 := denR_ne p
  have h2 := denR_ne q
  grind
theorem sub_q (p q : Rat) : ((p.num * (q.den : Int) - q.num * (p.den : Int) : Int) : Rat) / (((p.den : Int) * (q.den : Int) : Int) : Rat) = p - q := by
  rw [Rat.intCast_sub, Rat.intCast_mul, Rat.intCast_mul, Rat.intCast_mul, num_eq p, num_eq q]
  have h1 := denR_ne p
  have h2 := denR_ne q
  grind
theorem mul_q (p q : Rat) : ((p.num * q.num : Int) : Rat) / (((p.den : Int) * (q.den : Int) : Int) : Rat) = p * q := by
  rw [Rat.intCast_mul, Rat.intCast_mul, num_eq p, num_eq q]
  have h1 := denR_ne p
  have h2 := denR_ne q
  grind
theorem div_q (p q : Rat) (hq : q ≠ 0) : ((p.num * (q.den : Int) : Int) : Rat) / (((p.den : Int) * q.num : Int) : Rat) = p / q := by
  rw [Rat.intCast_mul, Rat.intCast_mul, num_eq p, num_eq q]
  have h1 := denR_ne p
  have h2 := denR_ne q
  grind
theorem Bq.add {n m : Nat} {p q : Rat} (h : Bq n p) (h' : Bq m q) : Bq (n + m + 1) (p + q) := by
  rw [← add_q]
  refine Bq.div ?_ ((h.2.mul h'.2).mono (by omega)) (Int.mul_ne_zero (den_ne p) (den_ne q))
  exact ((h.1.mul h'.2).add (h'.1.mul h.2)).mono (by omega)
theorem Bq.sub {n m : Nat} {p q : Rat} (h : Bq n p) (h' : Bq m q) : Bq (n + m + 1) (p - q) := by
  rw [← sub_q]
  refine Bq.div ?_ ((h.2.mul h'.2).mono (by omega)) (Int.mul_ne_zero (den_ne p) (den_ne q))
  exact ((h.1.mul h'.2).sub (h'.1.mul h.2)).mono (by omega)
theorem Bq.mul {n m : Nat} {p q : Rat} (h : Bq n p) (h' : Bq m q) : Bq (n + m) (p * q) := by
  rw [← mul_q]
  exact Bq.div (h.1.mul h'.1) (h.2.mul h'.2) (Int.mul_ne_zero (den_ne p) (den_ne q))
theorem num_ne {q : Rat} (h : q ≠ 0) : q.num ≠ 0 := fun z => h (Rat.num_eq_zero.mp z)
theorem Bq.quot {n m : Nat} {p q : Rat} (h : Bq n p) (h' : Bq m q) (hq : q ≠ 0) : Bq (n + m) (p / q) := by
  rw [← div_q p q hq]
  exact Bq.div (h.1.mul h'.2) (h.2.mul h'.1) (Int.mul_ne_zero (den_ne p) (num_ne hq))
theorem Bq.zero {n : Nat} (hn : 1 ≤ n) : Bq n 0 := Bq.int (a := 0) (Bs.of (k := 0) (by decide) (Nat.pow_pos (by omega))) hn
theorem any_rq {t : Rat} : ∀ ts : List Rat, ((ts.map rq).any fun z => eqD z (rq t)) = decide (t ∈ ts)
  | [] => by simp
  | a :: ts => by
    rw [List.map_cons, List.any_cons, any_rq ts, eqD_rq]
    by_cases h : a = t
    · subst h; simp
    · have h' : ¬ t = a := fun z => h z.symm
      simp [h, h']
/-- the shape of data, with the depth -/
def Shn (n : Nat) (d : D) : Prop := d.py.canLay0 = true ∧ d.py.depth ≤ n
theorem Shn.shp {n : Nat} {d : D} (h : Shn n d) (hn : n ≤ 64) : shp d := by
  show (d.py.canLay0 && decide (d.py.depth ≤ 64)) = true
  rw [h.1, decide_eq_true (Nat.le_trans h.2 hn)]; rfl
theorem Shn.mono {n m : Nat} {d : D} (h : Shn n d) (hn : n ≤ m) : Shn m d := ⟨h.1, Nat.le_trans h.2 hn⟩
theorem Shn.alls {n : Nat} : ∀ {l : List D}, (∀ x ∈ l, Shn n x) → PyData.canLayAll0 (D.pys l) = true ∧ PyData.depthAll (D.pys l) ≤ n
  | [], _ => ⟨rfl, Nat.zero_le _⟩
  | a :: l, h => by
    have h1 := h a List.mem_cons_self
    have h2 := Shn.alls fun x hx => h x (List.mem_cons_of_mem _ hx)
    unfold D.pys PyData.canLayAll0 PyData.depthAll
    rw [h1.1, h2.1]
    exact ⟨rfl, Nat.max_le.mpr ⟨h1.2, h2.2⟩⟩
theorem Shn.tup {n : Nat} {l : List D} (h : ∀ x ∈ l, Shn n x) : Shn (n + 1) (.tup l) := by
  have := Shn.alls h
  unfold Shn D.py PyData.canLay0 PyData.depth
  exact ⟨this.1, Nat.succ_le_succ this.2⟩
theorem Shn.lst {n : Nat} {l : List D} (h : ∀ x ∈ l, Shn n x) : Shn (n + 1) (.lst l) := by
  have := Shn.alls h
  unfold Shn D.py PyData.canLay0 PyData.depth
  exact ⟨this.1, Nat.succ_le_succ this.2⟩
theorem Shn.int {n : Nat} {i : Int} : Shn n (.int i) := by
  unfold Shn D.py PyData.canLay0 PyData.depth
  exact ⟨rfl, Nat.zero_le _⟩
theorem Shn.rq {n : Nat} {q : Rat} : Shn (n + 1) (rq q) := Shn.tup fun x hx => by
  simp only [List.mem_cons, List.not_mem_nil, or_false] at hx
  rcases hx with rfl | rfl <;> exact Shn.int
theorem shp_rqs {ts : List Rat} : shp (.lst (ts.map rq)) = True := eq_true ((Shn.lst (n := 1) fun x hx => by
  obtain ⟨q, _, rfl⟩ := List.mem_map.mp hx
  exact Shn.rq).shp (by omega))
end Pm

namespace Pm
open PySem PySem.Spec PyProof.Rows L2
local macro_rules | `(tactic| walk_at "pm") => `(tactic| simp only [e_fd, fd_ob, fd_fz, fd_ow, fd_dk, lk_hit, lk_miss, lk_nil, pt_hit, pt_miss, pt_nil, nA_alf, vw_alf, af_ob, fcD_fz, fcD_ow, fcD_dk, cf_alf, cf_al, cf_va, afF_ob, alF_at, fzC_alf, afZ_ob, afZ_fz, afZ_ow, stC_alf, e_sFd, sfd_at, e_me, me_ob, oN_none, isOw_ob, e_mk, hd_cons, e_muR, muR1_ow, muR2_ow, isPl_al, isPl_alf, setR_al, setR_alf, setRf_ob, e_dn, e_dkK, dk1_dk, dk2_k, kD_int, kD_str, e_dg, e_di, e_diT, e_dp, e_keyK, e_dcc, dc_nil, dc_cons, e_srt, seqD_l, seqD_t, e_rev, f_lcm, c_inT, c_ninT, nq_1, nq_2, nq_3, nq_4, nq_5, nq_6, nq_7, Bool.false_bne, Bool.true_bne, e_lcO, e_mth, e_mth0, tyK_lst, tyK_str, tyD_lst, tyD_str, f_index, e_iEnum, enK_one, walkE_lst, walkE_tup, e_cSort, srtK_lst, f_maxL, f_minL, shp_rqs, any_rq, sz0, sz1, sz2, sz3, sz4, sz5, sz6, sz7, sz8, ix_pt0, ix_pt1, true_false_F, c_eqB, c_neB, sq_nx, ix_rq0, ix_rq1, c_eqR, c_neR, c_eqR0, c_neR0, isNon_rq, shp_rqT, clsD_rq_tuple, f_len_rq, e_iAny, walkA_lst, walkA_tup, e_oNone, e_oSome, oiK_int, e_slice, sl_lstD, sl_tupD, sl_strD, intK_int, e_chG, e_chT_le_lt, e_chT_lt_le, e_chT_le_le, e_chT_lt_lt, e_ch_le_lt, e_ch_lt_le, e_ch_le_le, e_ch_lt_lt, f_sum, f_all, f_any, e_mu, muN_ow, muK_ow, f_app, f_ext, f_pop, f_ins, sq_rt, sq_bk, sq_ct, sq_ex, lp_nx, lp_ct, lp_bk, lp_rt, lp_ex, fn_nx, fn_rt, fn_ex, oD_some, oD_none, e_nm, nm_fz, nm_ow, nm_dk, e_nmC, nmc_fz, e_K, vw_fz, vw_ow, vw_al, alV_fz, alV_ow, nA_va, nA_al, fzC_fz, fzC_ow, fzC_al, alZ_fz, alZ_ow, stC_va, stC_al, fzL_nil, fzL_cons, e_fzK, b_addI, b_addS, b_addL, b_addT, b_sub, b_mul, b_div, b_mod, b_pow, c_lt, c_le, c_gt, c_ge, c_eqS, c_neS, c_eqI, c_neI, c_eqT, c_neT, c_eqL, c_neL, c_is, c_isn, c_in, c_nin, isNon_non, isNon_int, isNon_str, isNon_tup, isNon_lst, isNon_bl, shp_intT, shp_nonT, shp_blT, shp_ratT, eqD_rat, e_bin, e_cmp, e_cmpT, e_tru, tru_bl, tru_int, tru_non, tru_lst, tru_tup, tru_str, trs_bl, trs_int, trs_non, trs_lst, trs_tup, trs_str, e_and, e_or, e_not, e_yes, isB_bl, e_andV, e_orV, e_notV, e_ifE, e_neg, neg_int, e_aNil, e_aOne, e_aCons, e_tup, e_lst, e_ix, ix_tupD, ix_lstD, ix_strD, e_isi, e_cb, e_cD1, e_cD2, e_list, list_tup, list_lst, list_scr, e_tuple, tup_tup, tup_lst, f_len_tup, f_len_lst, f_len_scr, f_len_str, f_int, f_abs, f_gcd, f_max, f_min, e_call, e_callK, fzM_nil, fzM_f, fzM_t, isOw_fz, isOw_ow, isOw_no, isOw_dk, brs_nil, brs_l, brs_r, cts_nil, cts_l, cts_r, wb_nil, wb_l, wb_r, outs_nil, outs_cons, ret_va, ret_al, e_sNil, e_seq, e_pass, e_brk, e_cnt, e_never, e_ret, e_retN, e_exp, e_if, e_set, e_aug, aug_int, augK_int, e_par, par_2, e_asg, e_sub, subN_ow, subK_ow, e_for, for_nil, for_cons, tg_nm, tg_tp, tgs_nil, tgs_cons, e_rng1, e_rng2, rngL1_1, rngL2_2, rngK1_int, rngK2_int, e_iLst, e_iTup, walkL_lst, walkT_tup, e_lc, lc_nil, lc_cons, wipeE_nil, wipeE_cons, clsD_int_int, clsD_int_bool, clsD_int_str, clsD_int_tuple, clsD_str_str, clsD_str_tuple, clsD_str_int, clsD_tup_tuple, clsD_tup_str, clsD_tup_int, clsD_non_tuple, clsD_non_str, clsD_non_int, clsD_bl_bool, clsD_bl_int, clsD_bl_tuple, atI_0, atI_1, atI_2, atI_3, atI_4, ixN5_0, ixN5_1, ixN5_2, ixN5_3, ixN5_4, List.map_cons, List.map_nil, List.cons_append, List.nil_append, List.append_nil, List.replicate, List.getElem?_cons_zero, List.getElem?_cons_succ, List.getD_cons_zero, List.getD_cons_succ, List.set_cons_zero, List.set_cons_succ, Option.bind_some, Option.bind_none, List.length_cons, List.length_nil, if_true, if_false, Bool.false_eq_true, Bool.not_true, Bool.not_false, Bool.not_eq_true', decide_eq_true_eq, decide_eq_false_iff_not, and_true, true_and, List.mem_cons, List.not_mem_nil, or_false, forall_eq, false_imp_iff, implies_true, List.nodup_nil, List.nodup_cons, not_false_eq_true, List.isEmpty_cons, List.isEmpty_nil, List.tail_cons, List.tail_nil])
def B_ratio_1 : TSp :=
  (sSeq (sSet 2 (tCb (cD2 fGcd) (tACons (tNm 0) (tAOne (tNm 1)))))
    (sRet (tTup (tACons (tBin (opB .FloorDiv) (tNm 0) (tNm 2)) (tAOne (tBin (opB .FloorDiv) (tNm 1) (tNm 2)))))))
def T_ratio : TSp :=
  (sSeq (sIf (tCmpT .Lt (tNm 1) (tK (.int 0))) (sPar 0 1 (tACons (tNeg (tNm 0)) (tAOne (tNeg (tNm 1))))) sNil)
    B_ratio_1)
def φ_ratio : Fn := fun cs R0 _ => ∃ (n : Nat) (a b : Int), cs = [Fz (.int a), Fz (.int b)] ∧ b ≠ 0 ∧ Bs n b ∧ n ≤ 9000 ∧ R0 (Fz (rq ((a : Rat) / (b : Rat)))) [.no, .no]
theorem fdiv_pos {a : Int} {g : Nat} : Int.fdiv a (g : Int) = a / (g : Int) := Int.fdiv_eq_ediv_of_nonneg a (by omega)
theorem sp_ratio (cs : List Ct) (R0 : Ct → List Ct → Prop) (E0 : Exn → List Ct → Prop) : φ_ratio cs R0 E0 → fnOf 1 [] T_ratio cs R0 E0 := by
  rintro ⟨n, a, b, rfl, hb, hs, hn, h⟩
  rw [← rat_mkR hb] at h
  rw [fnOf_eq]
  refine ⟨noOw _ rfl, ?_⟩
  unfold T_ratio B_ratio_1
  walk_at "pm"
  have g1 := gcd_ok' (a := a) hb hs hn
  have e1 : (-a).natAbs = a.natAbs := Int.natAbs_neg a
  have e2 : (-b).natAbs = b.natAbs := Int.natAbs_neg b
  rw [e1, e2, fdiv_pos, fdiv_pos, fdiv_pos, fdiv_pos]
  unfold mkR at h
  by_cases hlt : b < 0
  · rw [if_pos hlt] at h ⊢
    exact ⟨g1, g1, h⟩
  · rw [if_neg hlt] at h ⊢
    exact ⟨g1, g1, h⟩

/-! ### the law's gcd -/
theorem fmod_nn {a b : Nat} : Int.fmod (a : Int) (b : Int) = ((a % b : Nat) : Int) := by
  rw [Int.fmod_eq_emod_of_nonneg (a : Int) (by omega)]; rfl
def B__law_gcd_1 : TSp :=
  (sSeq (sIf (tCmpT .Eq (tNm 1) (tK (.int 0))) (sRet (tNm 0)) sNil)
    (sPar 0 1 (tACons (tNm 1) (tAOne (tBin (opB .Mod) (tCb (cD1 fInt) (tAOne (tNm 0))) (tNm 1))))))
def T__law_gcd : TSp :=
  (sSeq (sFor (iRng1 (tAOne (tK (.int 100000)))) (.nm 2) B__law_gcd_1)
    (sRet (tK (.int 1))))
def gcdBody : TSp := sSeq (sIf (tCmpT .Eq (tNm 1) (tK (.int 0))) (sRet (tNm 0)) sNil) (sPar 0 1 (tACons (tNm 1) (tAOne (tBin (opB .Mod) (tCb (cD1 fInt) (tAOne (tNm 0))) (tNm 1)))))
theorem gcd_loop {E : Ep} : ∀ (s : Nat) (ds : List D) (a b : Nat) (ct : Ct), b ≤ a → a * b < 2 ^ s → s + 1 < ds.length → (∀ ct', E.rt (.va (Fz (.int (Nat.gcd a b)))) [Fz (.int (Nat.gcd a b : Nat)), Fz (.int 0), ct']) →
    forK (.nm 2) gcdBody ds [Fz (.int a), Fz (.int b), ct] E
  | s, [], a, b, ct, _, _, hl, _ => by simp at hl
  | s, d :: ds, a, b, ct, hab, hs, hl, h => by
    rw [for_cons]
    unfold gcdBody
    walk_at "pm"
    by_cases hb : b = 0
    · subst hb
      rw [if_pos (by simp)]
      rw [Nat.gcd_zero_right] at h
      exact h _
    · rw [if_neg (by simp; omega)]
      refine ⟨by omega, ?_⟩
      rw [fmod_nn]
      have hr : a % b < b := Nat.mod_lt _ (by omega)
      have h2 : 2 * (b * (a % b)) ≤ a * b := by
        have e := Nat.div_add_mod a b
        have hq : 1 ≤ a / b := (Nat.le_div_iff_mul_le (by omega)).mpr (by omega)
        have h3 : b * 1 ≤ b * (a / b) := Nat.mul_le_mul_left b hq
        have h4 : 2 * (a % b) ≤ a := by omega
        calc 2 * (b * (a % b)) = (2 * (a % b)) * b := by rw [Nat.mul_comm b, Nat.mul_assoc]
          _ ≤ a * b := Nat.mul_le_mul_right b h4
      have hg : Nat.gcd b (a % b) = Nat.gcd a b := by rw [Nat.gcd_comm b, ← Nat.gcd_rec, Nat.gcd_comm]
      cases s with
      | zero =>
        have : 0 < a * b := Nat.mul_pos (by omega) (by omega)
        simp at hs; omega
      | succ s =>
        refine gcd_loop s ds b (a % b) _ (Nat.le_of_lt hr) ?_ (by simp at hl; omega) ?_
        · rw [Nat.pow_succ] at hs; omega
        · rw [hg]; exact h
def φ__law_gcd : Fn := fun cs R0 _ => ∃ (n : Nat) (a b : Nat), cs = [Fz (.int a), Fz (.int b)] ∧ Bs n a ∧ Bs n b ∧ n ≤ 40000 ∧ R0 (Fz (.int (Nat.gcd a b : Nat))) [.no, .no]
theorem rngD_cons (lo : Int) (n : Nat) : ∃ d ds, rngD lo (n + 1) = d :: ds ∧ ds.length = n := by
  unfold rngD
  rw [List.range_succ_eq_map]
  exact ⟨_, _, rfl, by simp⟩
theorem rngD_len (lo : Int) (n : Nat) : (rngD lo n).length = n := by simp [rngD]
theorem sp__law_gcd (cs : List Ct) (R0 : Ct → List Ct → Prop) (E0 : Exn → List Ct → Prop) : φ__law_gcd cs R0 E0 → fnOf 1 [] T__law_gcd cs R0 E0 := by
  rintro ⟨n, a, b, rfl, ha, hb, hn, h⟩
  rw [fnOf_eq]
  refine ⟨noOw _ rfl, ?_⟩
  unfold T__law_gcd
  obtain ⟨N, hN, e⟩ : ∃ N : Nat, 99999 = N ∧ ((100000 : Int)).toNat = N + 1 := ⟨99999, rfl, rfl⟩
  walk_at "pm"
  rw [e]
  refine ⟨by decide, ?_⟩
  obtain ⟨d, ds, e1, e2⟩ := rngD_cons 0 N
  have hpow : a * b < 2 ^ (n + n) := by
    rw [Nat.pow_add]; exact Nat.mul_lt_mul'' ha hb
  show forK (.nm 2) gcdBody (rngD 0 (N + 1)) _ _
  by_cases hab : b ≤ a
  · refine gcd_loop (n + n) _ a b _ hab hpow (by rw [rngD_len]; omega) fun ct' => ?_
    exact h
  · rw [e1]
    rw [for_cons]
    unfold gcdBody
    walk_at "pm"
    rw [if_neg (by simp; omega)]
    refine ⟨by omega, ?_⟩
    rw [fmod_nn, Nat.mod_eq_of_lt (by omega)]
    show forK (.nm 2) gcdBody ds _ _
    refine gcd_loop (n + n) ds b a _ (by omega) (by rw [Nat.mul_comm]; exact hpow) (by omega) fun ct' => ?_
    rw [Nat.gcd_comm]
    walk_at "pm"
    exact h
end Pm

namespace Pm
open PySem PySem.Spec PyProof.Rows L2
local macro_rules | `(tactic| walk_at "pm") => `(tactic| simp only [e_fd, fd_ob, fd_fz, fd_ow, fd_dk, lk_hit, lk_miss, lk_nil, pt_hit, pt_miss, pt_nil, nA_alf, vw_alf, af_ob, fcD_fz, fcD_ow, fcD_dk, cf_alf, cf_al, cf_va, afF_ob, alF_at, fzC_alf, afZ_ob, afZ_fz, afZ_ow, stC_alf, e_sFd, sfd_at, e_me, me_ob, oN_none, isOw_ob, e_mk, hd_cons, e_muR, muR1_ow, muR2_ow, isPl_al, isPl_alf, setR_al, setR_alf, setRf_ob, e_dn, e_dkK, dk1_dk, dk2_k, kD_int, kD_str, e_dg, e_di, e_diT, e_dp, e_keyK, e_dcc, dc_nil, dc_cons, e_srt, seqD_l, seqD_t, e_rev, f_lcm, c_inT, c_ninT, nq_1, nq_2, nq_3, nq_4, nq_5, nq_6, nq_7, Bool.false_bne, Bool.true_bne, e_lcO, e_mth, e_mth0, tyK_lst, tyK_str, tyD_lst, tyD_str, f_index, e_iEnum, enK_one, walkE_lst, walkE_tup, e_cSort, srtK_lst, f_maxL, f_minL, shp_rqs, any_rq, sz0, sz1, sz2, sz3, sz4, sz5, sz6, sz7, sz8, ix_pt0, ix_pt1, true_false_F, c_eqB, c_neB, sq_nx, ix_rq0, ix_rq1, c_eqR, c_neR, c_eqR0, c_neR0, isNon_rq, shp_rqT, clsD_rq_tuple, f_len_rq, e_iAny, walkA_lst, walkA_tup, e_oNone, e_oSome, oiK_int, e_slice, sl_lstD, sl_tupD, sl_strD, intK_int, e_chG, e_chT_le_lt, e_chT_lt_le, e_chT_le_le, e_chT_lt_lt, e_ch_le_lt, e_ch_lt_le, e_ch_le_le, e_ch_lt_lt, f_sum, f_all, f_any, e_mu, muN_ow, muK_ow, f_app, f_ext, f_pop, f_ins, sq_rt, sq_bk, sq_ct, sq_ex, lp_nx, lp_ct, lp_bk, lp_rt, lp_ex, fn_nx, fn_rt, fn_ex, oD_some, oD_none, e_nm, nm_fz, nm_ow, nm_dk, e_nmC, nmc_fz, e_K, vw_fz, vw_ow, vw_al, alV_fz, alV_ow, nA_va, nA_al, fzC_fz, fzC_ow, fzC_al, alZ_fz, alZ_ow, stC_va, stC_al, fzL_nil, fzL_cons, e_fzK, b_addI, b_addS, b_addL, b_addT, b_sub, b_mul, b_div, b_mod, b_pow, c_lt, c_le, c_gt, c_ge, c_eqS, c_neS, c_eqI, c_neI, c_eqT, c_neT, c_eqL, c_neL, c_is, c_isn, c_in, c_nin, isNon_non, isNon_int, isNon_str, isNon_tup, isNon_lst, isNon_bl, shp_intT, shp_nonT, shp_blT, shp_ratT, eqD_rat, e_bin, e_cmp, e_cmpT, e_tru, tru_bl, tru_int, tru_non, tru_lst, tru_tup, tru_str, trs_bl, trs_int, trs_non, trs_lst, trs_tup, trs_str, e_and, e_or, e_not, e_yes, isB_bl, e_andV, e_orV, e_notV, e_ifE, e_neg, neg_int, e_aNil, e_aOne, e_aCons, e_tup, e_lst, e_ix, ix_tupD, ix_lstD, ix_strD, e_isi, e_cb, e_cD1, e_cD2, e_list, list_tup, list_lst, list_scr, e_tuple, tup_tup, tup_lst, f_len_tup, f_len_lst, f_len_scr, f_len_str, f_int, f_abs, f_gcd, f_max, f_min, e_call, e_callK, fzM_nil, fzM_f, fzM_t, isOw_fz, isOw_ow, isOw_no, isOw_dk, brs_nil, brs_l, brs_r, cts_nil, cts_l, cts_r, wb_nil, wb_l, wb_r, outs_nil, outs_cons, ret_va, ret_al, e_sNil, e_seq, e_pass, e_brk, e_cnt, e_never, e_ret, e_retN, e_exp, e_if, e_set, e_aug, aug_int, augK_int, e_par, par_2, e_asg, e_sub, subN_ow, subK_ow, e_for, for_nil, for_cons, tg_nm, tg_tp, tgs_nil, tgs_cons, e_rng1, e_rng2, rngL1_1, rngL2_2, rngK1_int, rngK2_int, e_iLst, e_iTup, walkL_lst, walkT_tup, e_lc, lc_nil, lc_cons, wipeE_nil, wipeE_cons, clsD_int_int, clsD_int_bool, clsD_int_str, clsD_int_tuple, clsD_str_str, clsD_str_tuple, clsD_str_int, clsD_tup_tuple, clsD_tup_str, clsD_tup_int, clsD_non_tuple, clsD_non_str, clsD_non_int, clsD_bl_bool, clsD_bl_int, clsD_bl_tuple, atI_0, atI_1, atI_2, atI_3, atI_4, ixN5_0, ixN5_1, ixN5_2, ixN5_3, ixN5_4, List.map_cons, List.map_nil, List.cons_append, List.nil_append, List.append_nil, List.replicate, List.getElem?_cons_zero, List.getElem?_cons_succ, List.getD_cons_zero, List.getD_cons_succ, List.set_cons_zero, List.set_cons_succ, Option.bind_some, Option.bind_none, List.length_cons, List.length_nil, if_true, if_false, Bool.false_eq_true, Bool.not_true, Bool.not_false, Bool.not_eq_true', decide_eq_true_eq, decide_eq_false_iff_not, and_true, true_and, List.mem_cons, List.not_mem_nil, or_false, forall_eq, false_imp_iff, implies_true, List.nodup_nil, List.nodup_cons, not_false_eq_true, List.isEmpty_cons, List.isEmpty_nil, List.tail_cons, List.tail_nil])
def B__law_ratio_1 : TSp :=
  (sSeq (sIf (tCmpT .Lt (tNm 1) (tK (.int 0))) (sSet 2 (tBin (opB .Sub) (tK (.int 0)) (tNm 2))) sNil)
    (sRet (tTup (tACons (tBin (opB .FloorDiv) (tNm 0) (tNm 2)) (tAOne (tBin (opB .FloorDiv) (tNm 1) (tNm 2)))))))
def T__law_ratio : TSp :=
  (sSeq (sSet 2 (tCall φ__law_gcd [false, false] [] (tACons (tCb (cD1 fAbs) (tAOne (tNm 0))) (tAOne (tCb (cD1 fAbs) (tAOne (tNm 1)))))))
    B__law_ratio_1)
def φ__law_ratio : Fn := fun cs R0 _ => ∃ (n : Nat) (a b : Int), cs = [Fz (.int a), Fz (.int b)] ∧ b ≠ 0 ∧ Bs n a ∧ Bs n b ∧ n ≤ 9000 ∧ R0 (Fz (rq ((a : Rat) / (b : Rat)))) [.no, .no]
theorem fdiv_neg' {a : Int} {g : Nat} (h : (g : Int) ∣ a) : Int.fdiv a (0 - (g : Int)) = (-a) / (g : Int) := by
  have e : 0 - (g : Int) = -(g : Int) := by omega
  rw [e]
  by_cases hg : g = 0
  · subst hg; simp
  obtain ⟨k, rfl⟩ := h
  have hg' : (g : Int) ≠ 0 := by omega
  have e1 : (-((g : Int) * k)) = (g : Int) * (-k) := by rw [Int.mul_neg]
  rw [e1, Int.mul_ediv_cancel_left _ hg']
  have e2 : (g : Int) * k = (-(g : Int)) * (-k) := by rw [Int.neg_mul_neg]
  rw [e2, Int.mul_fdiv_cancel_left _ (by omega)]
theorem abs_eq (a : Int) : (if a < 0 then -a else a) = ((a.natAbs : Nat) : Int) := by
  split <;> omega
theorem Bs.abs {n : Nat} {a : Int} (h : Bs n a) : Bs n ((a.natAbs : Nat) : Int) := by unfold Bs at *; simpa using h
theorem sp__law_ratio (cs : List Ct) (R0 : Ct → List Ct → Prop) (E0 : Exn → List Ct → Prop) : φ__law_ratio cs R0 E0 → fnOf 1 [] T__law_ratio cs R0 E0 := by
  rintro ⟨n, a, b, rfl, hb, ha, hs, hn, h⟩
  rw [← rat_mkR hb] at h
  rw [fnOf_eq]
  refine ⟨noOw _ rfl, ?_⟩
  unfold T__law_ratio B__law_ratio_1
  walk_at "pm"
  simp only [abs_eq]
  refine ⟨n, a.natAbs, b.natAbs, rfl, ha.abs, hs.abs, by omega, ?_⟩
  walk_at "pm"
  have g1 := gcd_ok' (a := a) hb hs hn
  unfold mkR at h
  by_cases hlt : b < 0
  · rw [if_pos hlt] at h ⊢
    have d1 : ((Nat.gcd a.natAbs b.natAbs : Nat) : Int) ∣ a := Int.ofNat_dvd_left.mpr (Nat.gcd_dvd_left _ _)
    have d2 : ((Nat.gcd a.natAbs b.natAbs : Nat) : Int) ∣ b := Int.ofNat_dvd_left.mpr (Nat.gcd_dvd_right _ _)
    rw [fdiv_neg' d1, fdiv_neg' d2]
    have g2 : DivOk (0 - ((Nat.gcd a.natAbs b.natAbs : Nat) : Int)) := by
      refine ⟨by have := g1.1; omega, ?_⟩
      have e : (0 - ((Nat.gcd a.natAbs b.natAbs : Nat) : Int)).natAbs = ((Nat.gcd a.natAbs b.natAbs : Nat) : Int).natAbs := by omega
      rw [e]; exact g1.2
    exact ⟨g2, g2, h⟩
  · rw [if_neg hlt] at h ⊢
    rw [fdiv_pos, fdiv_pos]
    exact ⟨g1, g1, h⟩

/-! ### the law's comparison: of equal data -/
def B__law_same_1 (φ__law_same : Fn) : TSp :=
  (sSeq (sIf (tOr (tNot (tTru (tIsi "tuple" (tNm 0)))) (tCmpT .NotEq (tCb (cD1 fLen) (tAOne (tNm 0))) (tCb (cD1 fLen) (tAOne (tNm 1))))) (sRet (tK (.bl false))) sNil)
    (sRet (tCmp .Eq (tCb (cD1 fLen) (tAOne (tLc' (iRng1 (tAOne (tCb (cD1 fLen) (tAOne (tNm 1))))) (.nm 2) (tNot (tTru (tCall φ__law_same [false, false] [] (tACons (tIx (tNm 0) (tNmC 2)) (tAOne (tIx (tNm 1) (tNmC 2))))))) (tNmC 2) [2]))) (tK (.int 0)))))
def B__law_same_2 (φ__law_same : Fn) : TSp :=
  (sSeq (sIf (tTru (tIsi "str" (tNm 1))) (sRet (tAndV (tIsi "str" (tNm 0)) (tCmp .Eq (tNm 0) (tNm 1)))) sNil)
    (sRet (tAndV (tIsi "int" (tNm 0)) (tAndV (tNotV (tIsi "bool" (tNm 0))) (tCmp .Eq (tNm 0) (tNm 1))))))
def B__law_same_3 (φ__law_same : Fn) : TSp :=
  (sSeq (sIf (tCmpT .Is (tNm 1) (tK .non)) (sRet (tCmp .Is (tNm 0) (tK .non))) sNil)
    (B__law_same_2 φ__law_same))
def T__law_same (φ__law_same : Fn) : TSp :=
  (sSeq (sIf (tTru (tIsi "tuple" (tNm 1))) (B__law_same_1 φ__law_same) sNil)
    (B__law_same_3 φ__law_same))
def sameOk : Nat → D → Prop
  | 0, _ => False
  | n + 1, .tup l => l.length ≤ 16777216 ∧ ∀ x ∈ l, sameOk n x
  | _ + 1, .int _ => True
  | _ + 1, .str _ => True
  | _ + 1, .non => True
  | _ + 1, _ => False
def φ__law_sameN (n : Nat) : Fn := fun cs R0 _ => ∃ d, cs = [Fz d, Fz d] ∧ sameOk n d ∧ R0 (Fz (.bl true)) [.no, .no]
theorem rngD_mem {lo : Int} {n : Nat} {d : D} (h : d ∈ rngD lo n) : ∃ k : Nat, k < n ∧ d = .int (lo + k) := by
  unfold rngD at h
  obtain ⟨k, h1, h2⟩ := List.mem_map.mp h
  exact ⟨k, by simpa using h1, h2.symm⟩
theorem same_loop {n : Nat} {l : List D} {E : Exn → En → Prop} {R : R → En → Prop} (hl : ∀ x ∈ l, sameOk n x) (hR : R (.va (Wl [])) [Fz (.tup l), Fz (.tup l), .no]) : ∀ ds : List D, (∀ x ∈ ds, ∃ k : Nat, k < l.length ∧ x = .int (0 + k)) →
    lcK (.nm 2) (tNot (tTru (tCall (φ__law_sameN n) [false, false] [] (tACons (tIx (tNm 0) (tNmC 2)) (tAOne (tIx (tNm 1) (tNmC 2))))))) (tNmC 2) [2] E R ds [] [Fz (.tup l), Fz (.tup l), .no]
  | [], _ => by rw [lc_nil]; exact hR
  | d :: ds, h => by
    obtain ⟨k, hk, rfl⟩ := h d List.mem_cons_self
    have e : atI l (0 + (k : Int)) = some l[k] := by
      rw [Int.zero_add]; exact atI_nat (List.getElem?_eq_getElem hk)
    rw [lc_cons]
    walk_at "pm"
    rw [e]
    walk_at "pm"
    refine ⟨l[k], rfl, hl _ (List.getElem_mem hk), ?_⟩
    walk_at "pm"
    exact same_loop hl hR ds (fun x hx => h x (List.mem_cons_of_mem _ hx))
theorem sp__law_same (n : Nat) (cs : List Ct) (R0 : Ct → List Ct → Prop) (E0 : Exn → List Ct → Prop) : φ__law_sameN (n + 1) cs R0 E0 → fnOf 1 [] (T__law_same (φ__law_sameN n)) cs R0 E0 := by
  rintro ⟨d, rfl, hd, h⟩
  rw [fnOf_eq]
  refine ⟨noOw _ rfl, ?_⟩
  unfold T__law_same
  cases d with
  | tup l =>
    unfold B__law_same_1
    walk_at "pm"
    have hlen : (l.length : Int) < 2 ^ 62 := by have := hd.1; omega
    rw [if_neg (by simp)]
    refine ⟨⟨by omega, hlen⟩, ?_⟩
    refine same_loop hd.2 ?_ _ (fun x hx => ?_)
    · walk_at "pm"
      exact h
    · obtain ⟨k, h1, h2⟩ := rngD_mem hx
      exact ⟨k, by simpa using h1, h2⟩
  | non =>
    unfold B__law_same_3
    walk_at "pm"
    exact h
  | int i =>
    unfold B__law_same_3 B__law_same_2
    walk_at "pm"
    simpa using h
  | str i =>
    unfold B__law_same_3 B__law_same_2
    walk_at "pm"
    simpa using h
  | bl _ => exact hd.elim
  | lst _ => exact hd.elim
  | scr _ => exact hd.elim

theorem atI_of {α : Type} {l : List α} {i : Int} (h : 0 ≤ i) (h2 : i.toNat < l.length) : atI l i = some l[i.toNat] := by
  have := atI_nat (xs := l) (j := i.toNat) (List.getElem?_eq_getElem h2)
  rwa [show ((i.toNat : Nat) : Int) = i by omega] at this
theorem same_zero {cs : List Ct} {R0 : Ct → List Ct → Prop} {E0 : Exn → List Ct → Prop} (h : φ__law_sameN 0 cs R0 E0) : False := let ⟨_, _, h, _⟩ := h; h
def φ__law_same : Fn := φ__law_sameN 12
theorem sameOk_mono : ∀ {n : Nat} {d : D}, sameOk n d → sameOk (n + 1) d
  | 0, _, h => h.elim
  | n + 1, .tup l, h => ⟨h.1, fun x hx => sameOk_mono (h.2 x hx)⟩
  | n + 1, .int _, _ => trivial
  | n + 1, .str _, _ => trivial
  | n + 1, .non, _ => trivial
  | n + 1, .bl _, h => h.elim
  | n + 1, .lst _, h => h.elim
  | n + 1, .scr _, h => h.elim
theorem sameOk_le {n m : Nat} {d : D} (h : sameOk n d) (hm : n ≤ m) : sameOk m d := by
  induction hm with
  | refl => exact h
  | step _ ih => exact sameOk_mono ih
theorem sameOk_rat {p : Rat} {n : Nat} : sameOk (n + 2) (rq p) := ⟨by simp, fun x hx => by
  simp only [List.mem_cons, List.not_mem_nil, or_false] at hx
  rcases hx with rfl | rfl <;> trivial⟩
/-- the comparison of equal data, as the law's walk meets it -/
theorem same_eq {d d' : D} {R0 : Ct → List Ct → Prop} {E0 : Exn → List Ct → Prop} (e : d = d') (h : sameOk 12 d) (k : R0 (Fz (.bl true)) [.no, .no]) : φ__law_same [Fz d, Fz d'] R0 E0 := by
  subst e; exact ⟨d, rfl, h, k⟩
/-! ### the law's draws -/
structure Pool where
  cells : List Int
  at_ : Int
  rest : Int
  last : Int
  cnt : Int
def Pool.d (p : Pool) : List D := [.lst (p.cells.map .int), .int p.at_, .int p.rest, .int p.last, .int p.cnt]
def Pool.Ok (n : Nat) (p : Pool) : Prop := p.cells.length ≤ 63 ∧ 0 ≤ p.at_ ∧ p.at_ ≤ 63 ∧ 0 ≤ p.rest ∧ 0 ≤ p.last ∧ p.last < 10 ^ 18 ∧ 0 ≤ p.cnt ∧ p.cnt + n ≤ 2 ^ 64
theorem Pool.Ok.mono {n m : Nat} {p : Pool} (h : p.Ok n) (hm : m ≤ n) : p.Ok m := by
  obtain ⟨h1, h2, h3, h4, h5, h6, h7, h8⟩ := h
  exact ⟨h1, h2, h3, h4, h5, h6, h7, by omega⟩
def T__law_pool : TSp :=
  (sRet (tLst (tACons (tCb cList (tAOne (tNm 0))) (tACons (tK (.int 0)) (tACons (tK (.int 0)) (tACons (tK (.int 0)) (tAOne (tK (.int 0)))))))))
def φ__law_pool : Fn := fun cs R0 _ => ∃ ns : List Int, cs = [Fz (.scr ns)] ∧ ns.length ≤ 63 ∧ ∀ p : Pool, p.Ok (2 ^ 63) → R0 (Wl p.d) [.no]
theorem sp__law_pool (cs : List Ct) (R0 : Ct → List Ct → Prop) (E0 : Exn → List Ct → Prop) : φ__law_pool cs R0 E0 → fnOf 0 [] T__law_pool cs R0 E0 := by
  rintro ⟨ns, rfl, hl, h⟩
  rw [fnOf_eq]
  refine ⟨noOw _ rfl, ?_⟩
  unfold T__law_pool
  walk_at "pm"
  exact h ⟨ns, 0, 0, 0, 0⟩ ⟨hl, by simp, by simp, by simp, by simp, by simp, by simp, by simp⟩
def B__law_draw_1 : TSp :=
  (sSeq (sSub 0 (tK (.int 2)) (tBin (opB .FloorDiv) (tIx (tNm 0) (tK (.int 2))) (tNm 1)))
    (sRet (tNm 2)))
def B__law_draw_2 : TSp :=
  (sSeq (sSet 2 (tBin (opB .Mod) (tCb (cD1 fInt) (tAOne (tIx (tNm 0) (tK (.int 2))))) (tNm 1)))
    B__law_draw_1)
def B__law_draw_3 : TSp :=
  (sSeq (sSub 0 (tK (.int 2)) (tBin (opB .FloorDiv) (tNm 3) (tNm 1)))
    (sRet (tBin (opB .Mod) (tCb (cD1 fInt) (tAOne (tNm 3))) (tNm 1))))
def B__law_draw_4 : TSp :=
  (sSeq (sIf (tCmpT .GtE (tNm 3) (tBin (opB .Pow) (tK (.int 10)) (tK (.int 18)))) B__law_draw_3 sNil)
    (sSub 0 (tK (.int 3)) (tNm 3)))
def B__law_draw_5 : TSp :=
  (sSeq (sSub 0 (tK (.int 1)) (tBin (opB .Add) (tIx (tNm 0) (tK (.int 1))) (tK (.int 1))))
    B__law_draw_4)
def B__law_draw_6 : TSp :=
  (sSeq (sSet 3 (tCb (cD1 fAbs) (tAOne (tIx (tIx (tNm 0) (tK (.int 0))) (tIx (tNm 0) (tK (.int 1)))))))
    B__law_draw_5)
def B__law_draw_7 : TSp :=
  (sSeq (sSet 4 (tBin (opB .Mod) (tCb (cD1 fInt) (tAOne (tBin (opB .Add) (tBin (opB .Mult) (tNm 4) (tNm 4)) (tBin (opB .Mult) (tIx (tNm 0) (tK (.int 4))) (tK (.int 40692)))))) (tK (.int 2147483399))))
    (sRet (tBin (opB .Mod) (tCb (cD1 fInt) (tAOne (tNm 4))) (tNm 1))))
def B__law_draw_8 : TSp :=
  (sSeq (sSet 4 (tBin (opB .Mod) (tCb (cD1 fInt) (tAOne (tBin (opB .Add) (tBin (opB .Add) (tBin (opB .Mult) (tIx (tNm 0) (tK (.int 3))) (tK (.int 48271))) (tBin (opB .Mult) (tIx (tNm 0) (tK (.int 4))) (tK (.int 69621)))) (tK (.int 7919))))) (tK (.int 2147483647))))
    B__law_draw_7)
def B__law_draw_9 : TSp :=
  (sSeq (sSub 0 (tK (.int 4)) (tBin (opB .Add) (tIx (tNm 0) (tK (.int 4))) (tK (.int 1))))
    B__law_draw_8)
def B__law_draw_10 : TSp :=
  (sSeq (sIf (tAnd (tCmpT .Eq (tBin (opB .Mod) (tCb (cD1 fInt) (tAOne (tIx (tNm 0) (tK (.int 4))))) (tK (.int 8))) (tK (.int 0))) (tCmpT .Lt (tIx (tNm 0) (tK (.int 1))) (tCb (cD1 fLen) (tAOne (tIx (tNm 0) (tK (.int 0))))))) B__law_draw_6 sNil)
    B__law_draw_9)
def T__law_draw : TSp :=
  (sSeq (sIf (tCmpT .Gt (tIx (tNm 0) (tK (.int 2))) (tK (.int 0))) B__law_draw_2 sNil)
    B__law_draw_10)
def φ__law_draw : Fn := fun cs R0 _ => ∃ (n m : Nat) (p : Pool) (many : Int), cs = [Wl p.d, Fz (.int many)] ∧ p.Ok (n + 1) ∧ 0 < many ∧ Bs m many ∧ m ≤ 9000 ∧ ∀ (k : Int) (p' : Pool), 0 ≤ k → k < many → p'.Ok n → R0 (Fz (.int k)) [Wl p'.d, .no]
theorem sp__law_draw (cs : List Ct) (R0 : Ct → List Ct → Prop) (E0 : Exn → List Ct → Prop) : φ__law_draw cs R0 E0 → fnOf 3 [0] T__law_draw cs R0 E0 := by
  rintro ⟨n, m, ⟨cells, at_, rest, last, cnt⟩, many, rfl, hp, h0, hb, hm, h⟩
  obtain ⟨p1, p2, p3, p4, p5, p6, p7, p8⟩ := hp
  simp only at p1 p2 p3 p4 p5 p6 p7 p8
  rw [fnOf_eq]
  refine ⟨ow0 rfl, ?_⟩
  have hdv : DivOk many := hb.div (by omega) hm
  have m0 : many ≠ 0 := by omega
  have fm : ∀ x : Int, Int.fmod x many = x % many := fun x => Int.fmod_eq_emod_of_nonneg x (by omega)
  have fd : ∀ x : Int, Int.fdiv x many = x / many := fun x => Int.fdiv_eq_ediv_of_nonneg x (by omega)
  have mr : ∀ x : Int, 0 ≤ x % many ∧ x % many < many := fun x => ⟨Int.emod_nonneg x m0, Int.emod_lt_of_pos x h0⟩
  -- the last part: a mixed number
  have fin : ∀ (at' rest' last' : Int) (c2 c3 c4 : Ct), 0 ≤ at' → at' ≤ 63 → 0 ≤ rest' → 0 ≤ last' → last' < 10 ^ 18 →
      B__law_draw_9 [Wl [D.lst (List.map D.int cells), D.int at', D.int rest', D.int last', D.int cnt], Fz (D.int many), c2, c3, c4]
        (fnE [Wl [D.lst (List.map D.int cells), D.int at_, D.int rest, D.int last, D.int cnt], Fz (D.int many)] R0 E0) := by
    intro at' rest' last' c2 c3 c4 q1 q2 q3 q4 q5
    unfold B__law_draw_9 B__law_draw_8 B__law_draw_7
    walk_at "pm"
    have e1 : Int.fmod (last' * 48271 + (cnt + 1) * 69621 + 7919) 2147483647 = (last' * 48271 + (cnt + 1) * 69621 + 7919) % 2147483647 := Int.fmod_eq_emod_of_nonneg _ (by omega)
    rw [e1]
    have b1 : Bs 61 last' := Bs.of (k := 10 ^ 18) (by omega) (by decide)
    have b2 : Bs 66 (cnt + 1) := Bs.of (k := 2 ^ 65) (by omega) (by decide)
    have s1 : MulOk last' 48271 := b1.mulOk (m := 20) (Bs.of (k := 48271) (by decide) (by decide)) (by omega)
    have s2 : MulOk (cnt + 1) 69621 := b2.mulOk (m := 20) (Bs.of (k := 69621) (by decide) (by decide)) (by omega)
    have s4 : MulOk (cnt + 1) 40692 := b2.mulOk (m := 20) (Bs.of (k := 40692) (by decide) (by decide)) (by omega)
    have r1 := Int.emod_nonneg (last' * 48271 + (cnt + 1) * 69621 + 7919) (show (2147483647 : Int) ≠ 0 by omega)
    have r2 := Int.emod_lt_of_pos (last' * 48271 + (cnt + 1) * 69621 + 7919) (show (0 : Int) < 2147483647 by omega)
    generalize (last' * 48271 + (cnt + 1) * 69621 + 7919) % 2147483647 = z at r1 r2 ⊢
    have b3 : Bs 32 z := Bs.of (k := 2147483647) (by omega) (by decide)
    have s3 : MulOk z z := b3.mulOk b3 (by omega)
    rw [fm]
    obtain ⟨k1, k2⟩ := mr (Int.fmod (z * z + (cnt + 1) * 40692) 2147483399)
    exact ⟨s1, s2, by omega, s3, s4, by omega, m0, h _ ⟨cells, at', rest', last', cnt + 1⟩ k1 k2 ⟨p1, q1, q2, q3, q4, q5, by simp only; omega, by simp only; omega⟩⟩
  unfold T__law_draw Pool.d
  walk_at "pm"
  by_cases hr : 0 < rest
  · rw [if_pos hr]
    unfold B__law_draw_2 B__law_draw_1
    walk_at "pm"
    rw [fm, fd]
    obtain ⟨k1, k2⟩ := mr rest
    exact ⟨m0, hdv, h _ ⟨cells, at_, rest / many, last, cnt⟩ k1 k2 ⟨p1, p2, p3, Int.ediv_nonneg p4 (by omega), p5, p6, p7, by simp only; omega⟩⟩
  · rw [if_neg hr]
    have hr0 : rest = 0 := by omega
    unfold B__law_draw_10
    walk_at "pm"
    refine ⟨by omega, ?_⟩
    by_cases h8 : Int.fmod cnt 8 = 0
    · rw [if_pos (by simpa using h8)]
      by_cases hlt : at_ < (cells.map D.int).length
      · rw [if_pos (by simpa using hlt)]
        unfold B__law_draw_6 B__law_draw_5
        walk_at "pm"
        rw [List.length_map] at hlt
        have hat : atI (cells.map D.int) at_ = some (D.int cells[at_.toNat]) := by
          rw [atI_of (l := cells.map D.int) p2 (by rw [List.length_map]; omega), List.getElem_map]
        rw [hat]
        walk_at "pm"
        generalize cells[at_.toNat] = cell
        rw [abs_eq]
        unfold B__law_draw_4
        walk_at "pm"
        refine ⟨by decide, ?_⟩
        have e18 : ((10 : Int) ^ (18 : Int).toNat) = 10 ^ 18 := rfl
        rw [e18]
        by_cases hbig : (10 : Int) ^ 18 ≤ (cell.natAbs : Int)
        · rw [if_pos hbig]
          unfold B__law_draw_3
          walk_at "pm"
          rw [fm, fd]
          obtain ⟨k1, k2⟩ := mr (cell.natAbs : Int)
          exact ⟨hdv, m0, h _ ⟨cells, at_ + 1, (cell.natAbs : Int) / many, last, cnt⟩ k1 k2 ⟨p1, by simp only; omega, by simp only; omega, Int.ediv_nonneg (by omega) (by omega), p5, p6, p7, by simp only; omega⟩⟩
        · rw [if_neg hbig]
          exact fin _ _ _ _ _ _ (by omega) (by omega) p4 (by omega) (by omega)
      · rw [if_neg (by simpa using hlt)]
        exact fin _ _ _ _ _ _ p2 p3 p4 p5 p6
    · rw [if_neg (by simpa using h8)]
      exact fin _ _ _ _ _ _ p2 p3 p4 p5 p6
end Pm

namespace Pm
open PySem PySem.Spec PyProof.Rows L2
local macro_rules | `(tactic| walk_at "pm") => `(tactic| simp only [e_fd, fd_ob, fd_fz, fd_ow, fd_dk, lk_hit, lk_miss, lk_nil, pt_hit, pt_miss, pt_nil, nA_alf, vw_alf, af_ob, fcD_fz, fcD_ow, fcD_dk, cf_alf, cf_al, cf_va, afF_ob, alF_at, fzC_alf, afZ_ob, afZ_fz, afZ_ow, stC_alf, e_sFd, sfd_at, e_me, me_ob, oN_none, isOw_ob, e_mk, hd_cons, e_muR, muR1_ow, muR2_ow, isPl_al, isPl_alf, setR_al, setR_alf, setRf_ob, e_dn, e_dkK, dk1_dk, dk2_k, kD_int, kD_str, e_dg, e_di, e_diT, e_dp, e_keyK, e_dcc, dc_nil, dc_cons, e_srt, seqD_l, seqD_t, e_rev, f_lcm, c_inT, c_ninT, nq_1, nq_2, nq_3, nq_4, nq_5, nq_6, nq_7, Bool.false_bne, Bool.true_bne, e_lcO, e_mth, e_mth0, tyK_lst, tyK_str, tyD_lst, tyD_str, f_index, e_iEnum, enK_one, walkE_lst, walkE_tup, e_cSort, srtK_lst, f_maxL, f_minL, shp_rqs, any_rq, sz0, sz1, sz2, sz3, sz4, sz5, sz6, sz7, sz8, ix_pt0, ix_pt1, true_false_F, c_eqB, c_neB, sq_nx, ix_rq0, ix_rq1, c_eqR, c_neR, c_eqR0, c_neR0, isNon_rq, shp_rqT, clsD_rq_tuple, f_len_rq, e_iAny, walkA_lst, walkA_tup, e_oNone, e_oSome, oiK_int, e_slice, sl_lstD, sl_tupD, sl_strD, intK_int, e_chG, e_chT_le_lt, e_chT_lt_le, e_chT_le_le, e_chT_lt_lt, e_ch_le_lt, e_ch_lt_le, e_ch_le_le, e_ch_lt_lt, f_sum, f_all, f_any, e_mu, muN_ow, muK_ow, f_app, f_ext, f_pop, f_ins, sq_rt, sq_bk, sq_ct, sq_ex, lp_nx, lp_ct, lp_bk, lp_rt, lp_ex, fn_nx, fn_rt, fn_ex, oD_some, oD_none, e_nm, nm_fz, nm_ow, nm_dk, e_nmC, nmc_fz, e_K, vw_fz, vw_ow, vw_al, alV_fz, alV_ow, nA_va, nA_al, fzC_fz, fzC_ow, fzC_al, alZ_fz, alZ_ow, stC_va, stC_al, fzL_nil, fzL_cons, e_fzK, b_addI, b_addS, b_addL, b_addT, b_sub, b_mul, b_div, b_mod, b_pow, c_lt, c_le, c_gt, c_ge, c_eqS, c_neS, c_eqI, c_neI, c_eqT, c_neT, c_eqL, c_neL, c_is, c_isn, c_in, c_nin, isNon_non, isNon_int, isNon_str, isNon_tup, isNon_lst, isNon_bl, shp_intT, shp_nonT, shp_blT, shp_ratT, eqD_rat, e_bin, e_cmp, e_cmpT, e_tru, tru_bl, tru_int, tru_non, tru_lst, tru_tup, tru_str, trs_bl, trs_int, trs_non, trs_lst, trs_tup, trs_str, e_and, e_or, e_not, e_yes, isB_bl, e_andV, e_orV, e_notV, e_ifE, e_neg, neg_int, e_aNil, e_aOne, e_aCons, e_tup, e_lst, e_ix, ix_tupD, ix_lstD, ix_strD, e_isi, e_cb, e_cD1, e_cD2, e_list, list_tup, list_lst, list_scr, e_tuple, tup_tup, tup_lst, f_len_tup, f_len_lst, f_len_scr, f_len_str, f_int, f_abs, f_gcd, f_max, f_min, e_call, e_callK, fzM_nil, fzM_f, fzM_t, isOw_fz, isOw_ow, isOw_no, isOw_dk, brs_nil, brs_l, brs_r, cts_nil, cts_l, cts_r, wb_nil, wb_l, wb_r, outs_nil, outs_cons, ret_va, ret_al, e_sNil, e_seq, e_pass, e_brk, e_cnt, e_never, e_ret, e_retN, e_exp, e_if, e_set, e_aug, aug_int, augK_int, e_par, par_2, e_asg, e_sub, subN_ow, subK_ow, e_for, for_nil, for_cons, tg_nm, tg_tp, tgs_nil, tgs_cons, e_rng1, e_rng2, rngL1_1, rngL2_2, rngK1_int, rngK2_int, e_iLst, e_iTup, walkL_lst, walkT_tup, e_lc, lc_nil, lc_cons, wipeE_nil, wipeE_cons, clsD_int_int, clsD_int_bool, clsD_int_str, clsD_int_tuple, clsD_str_str, clsD_str_tuple, clsD_str_int, clsD_tup_tuple, clsD_tup_str, clsD_tup_int, clsD_non_tuple, clsD_non_str, clsD_non_int, clsD_bl_bool, clsD_bl_int, clsD_bl_tuple, atI_0, atI_1, atI_2, atI_3, atI_4, ixN5_0, ixN5_1, ixN5_2, ixN5_3, ixN5_4, List.map_cons, List.map_nil, List.cons_append, List.nil_append, List.append_nil, List.replicate, List.getElem?_cons_zero, List.getElem?_cons_succ, List.getD_cons_zero, List.getD_cons_succ, List.set_cons_zero, List.set_cons_succ, Option.bind_some, Option.bind_none, List.length_cons, List.length_nil, if_true, if_false, Bool.false_eq_true, Bool.not_true, Bool.not_false, Bool.not_eq_true', decide_eq_true_eq, decide_eq_false_iff_not, and_true, true_and, List.mem_cons, List.not_mem_nil, or_false, forall_eq, false_imp_iff, implies_true, List.nodup_nil, List.nodup_cons, not_false_eq_true, List.isEmpty_cons, List.isEmpty_nil, List.tail_cons, List.tail_nil])
def T_plus : TSp :=
  (sRet (tCall φ_ratio [false, false] [] (tACons (tBin (opB .Add) (tBin (opB .Mult) (tIx (tNm 0) (tK (.int 0))) (tIx (tNm 1) (tK (.int 1)))) (tBin (opB .Mult) (tIx (tNm 1) (tK (.int 0))) (tIx (tNm 0) (tK (.int 1))))) (tAOne (tBin (opB .Mult) (tIx (tNm 0) (tK (.int 1))) (tIx (tNm 1) (tK (.int 1))))))))
def φ_plus : Fn := fun cs R0 _ => ∃ (n m : Nat) (p q : Rat), cs = [Fz (rq p), Fz (rq q)] ∧ Bq n p ∧ Bq m q ∧ n + m ≤ 8000 ∧ R0 (Fz (rq (p + q))) [.no, .no]
theorem sp_plus (cs : List Ct) (R0 : Ct → List Ct → Prop) (E0 : Exn → List Ct → Prop) : φ_plus cs R0 E0 → fnOf 0 [] T_plus cs R0 E0 := by
  rintro ⟨n, m, p, q, rfl, hp, hq, hn, h⟩
  rw [fnOf_eq]
  refine ⟨noOw _ rfl, ?_⟩
  unfold T_plus
  walk_at "pm"
  refine ⟨hp.1.mulOk hq.2 (by omega), hq.1.mulOk hp.2 (by omega), hp.2.mulOk hq.2 (by omega), n + m, _, _, rfl, Int.mul_ne_zero (den_ne p) (den_ne q), hp.2.mul hq.2, by omega, ?_⟩
  walk_at "pm"
  rw [add_q]
  exact h
def T_minus : TSp :=
  (sRet (tCall φ_ratio [false, false] [] (tACons (tBin (opB .Sub) (tBin (opB .Mult) (tIx (tNm 0) (tK (.int 0))) (tIx (tNm 1) (tK (.int 1)))) (tBin (opB .Mult) (tIx (tNm 1) (tK (.int 0))) (tIx (tNm 0) (tK (.int 1))))) (tAOne (tBin (opB .Mult) (tIx (tNm 0) (tK (.int 1))) (tIx (tNm 1) (tK (.int 1))))))))
def φ_minus : Fn := fun cs R0 _ => ∃ (n m : Nat) (p q : Rat), cs = [Fz (rq p), Fz (rq q)] ∧ Bq n p ∧ Bq m q ∧ n + m ≤ 8000 ∧ R0 (Fz (rq (p - q))) [.no, .no]
theorem sp_minus (cs : List Ct) (R0 : Ct → List Ct → Prop) (E0 : Exn → List Ct → Prop) : φ_minus cs R0 E0 → fnOf 0 [] T_minus cs R0 E0 := by
  rintro ⟨n, m, p, q, rfl, hp, hq, hn, h⟩
  rw [fnOf_eq]
  refine ⟨noOw _ rfl, ?_⟩
  unfold T_minus
  walk_at "pm"
  refine ⟨hp.1.mulOk hq.2 (by omega), hq.1.mulOk hp.2 (by omega), hp.2.mulOk hq.2 (by omega), n + m, _, _, rfl, Int.mul_ne_zero (den_ne p) (den_ne q), hp.2.mul hq.2, by omega, ?_⟩
  walk_at "pm"
  rw [sub_q]
  exact h
def T_times : TSp :=
  (sRet (tCall φ_ratio [false, false] [] (tACons (tBin (opB .Mult) (tIx (tNm 0) (tK (.int 0))) (tIx (tNm 1) (tK (.int 0)))) (tAOne (tBin (opB .Mult) (tIx (tNm 0) (tK (.int 1))) (tIx (tNm 1) (tK (.int 1))))))))
def φ_times : Fn := fun cs R0 _ => ∃ (n m : Nat) (p q : Rat), cs = [Fz (rq p), Fz (rq q)] ∧ Bq n p ∧ Bq m q ∧ n + m ≤ 8000 ∧ R0 (Fz (rq (p * q))) [.no, .no]
theorem sp_times (cs : List Ct) (R0 : Ct → List Ct → Prop) (E0 : Exn → List Ct → Prop) : φ_times cs R0 E0 → fnOf 0 [] T_times cs R0 E0 := by
  rintro ⟨n, m, p, q, rfl, hp, hq, hn, h⟩
  rw [fnOf_eq]
  refine ⟨noOw _ rfl, ?_⟩
  unfold T_times
  walk_at "pm"
  refine ⟨hp.1.mulOk hq.1 (by omega), hp.2.mulOk hq.2 (by omega), n + m, _, _, rfl, Int.mul_ne_zero (den_ne p) (den_ne q), hp.2.mul hq.2, by omega, ?_⟩
  walk_at "pm"
  rw [mul_q]
  exact h
def T_over : TSp :=
  (sRet (tCall φ_ratio [false, false] [] (tACons (tBin (opB .Mult) (tIx (tNm 0) (tK (.int 0))) (tIx (tNm 1) (tK (.int 1)))) (tAOne (tBin (opB .Mult) (tIx (tNm 0) (tK (.int 1))) (tIx (tNm 1) (tK (.int 0))))))))
def φ_over : Fn := fun cs R0 _ => ∃ (n m : Nat) (p q : Rat), cs = [Fz (rq p), Fz (rq q)] ∧ q ≠ 0 ∧ Bq n p ∧ Bq m q ∧ n + m ≤ 8000 ∧ R0 (Fz (rq (p / q))) [.no, .no]
theorem sp_over (cs : List Ct) (R0 : Ct → List Ct → Prop) (E0 : Exn → List Ct → Prop) : φ_over cs R0 E0 → fnOf 0 [] T_over cs R0 E0 := by
  rintro ⟨n, m, p, q, rfl, h0, hp, hq, hn, h⟩
  rw [fnOf_eq]
  refine ⟨noOw _ rfl, ?_⟩
  unfold T_over
  walk_at "pm"
  refine ⟨hp.1.mulOk hq.2 (by omega), hp.2.mulOk hq.1 (by omega), n + m, _, _, rfl, Int.mul_ne_zero (den_ne p) (num_ne h0), hp.2.mul hq.1, by omega, ?_⟩
  walk_at "pm"
  rw [div_q p q h0]
  exact h
def T_less : TSp :=
  (sRet (tCmp .Lt (tBin (opB .Mult) (tIx (tNm 0) (tK (.int 0))) (tIx (tNm 1) (tK (.int 1)))) (tBin (opB .Mult) (tIx (tNm 1) (tK (.int 0))) (tIx (tNm 0) (tK (.int 1))))))
/-- a pair that stands for a ratio, not always in lowest terms -/
def qd (a b : Int) : D := .tup [.int a, .int b]
def φ_less : Fn := fun cs R0 _ => ∃ (n m : Nat) (a b c d : Int), cs = [Fz (qd a b), Fz (qd c d)] ∧ 0 < b ∧ 0 < d ∧ Bs n a ∧ Bs n b ∧ Bs m c ∧ Bs m d ∧ n + m ≤ 8000 ∧ R0 (Fz (.bl (decide ((a : Rat) / (b : Rat) < (c : Rat) / (d : Rat))))) [.no, .no]
theorem less_pq {a b c d : Int} (hb : 0 < b) (hd : 0 < d) : (a * d < c * b) ↔ ((a : Rat) / (b : Rat) < (c : Rat) / (d : Rat)) := by
  have h1 : (0 : Rat) < (b : Rat) := Rat.intCast_lt_intCast.mpr hb
  have h2 : (0 : Rat) < (d : Rat) := Rat.intCast_lt_intCast.mpr hd
  rw [← Rat.intCast_lt_intCast, Rat.intCast_mul, Rat.intCast_mul]
  have e1 : (a : Rat) = (a : Rat) / (b : Rat) * (b : Rat) := by grind
  have e2 : (c : Rat) = (c : Rat) / (d : Rat) * (d : Rat) := by grind
  generalize (a : Rat) / (b : Rat) = x at e1
  generalize (c : Rat) / (d : Rat) = y at e2
  rw [e1, e2]
  have h3 := Rat.mul_pos h1 h2
  constructor
  · intro h
    refine Rat.not_le.mp fun z => ?_
    have := Rat.mul_le_mul_of_nonneg_right z (Rat.le_of_lt h3)
    grind
  · intro h
    have := Rat.mul_lt_mul_of_pos_right h h3
    grind
theorem sp_less (cs : List Ct) (R0 : Ct → List Ct → Prop) (E0 : Exn → List Ct → Prop) : φ_less cs R0 E0 → fnOf 0 [] T_less cs R0 E0 := by
  rintro ⟨n, m, a, b, c, d, rfl, hb, hd, ba, bb, bc, bd, hn, h⟩
  rw [fnOf_eq]
  refine ⟨noOw _ rfl, ?_⟩
  unfold T_less qd
  walk_at "pm"
  refine ⟨ba.mulOk bd (by omega), bc.mulOk bb (by omega), ?_⟩
  rw [decide_eq_decide.mpr (less_pq hb hd)]
  exact h
theorem numden (p : Rat) : ((p.num : Int) : Rat) / (((p.den : Int)) : Rat) = p := by
  rw [num_eq p]
  have := denR_ne p
  grind
theorem less_q {cs : List Ct} {R0 : Ct → List Ct → Prop} {E0 : Exn → List Ct → Prop} (h : ∃ (n m : Nat) (p q : Rat), cs = [Fz (rq p), Fz (rq q)] ∧ Bq n p ∧ Bq m q ∧ n + m ≤ 8000 ∧ R0 (Fz (.bl (decide (p < q)))) [.no, .no]) : φ_less cs R0 E0 := by
  obtain ⟨n, m, p, q, rfl, hp, hq, hn, h⟩ := h
  refine ⟨n, m, p.num, p.den, q.num, q.den, rfl, by have := p.den_pos; omega, by have := q.den_pos; omega, hp.1, hp.2, hq.1, hq.2, hn, ?_⟩
  rw [numden, numden]
  exact h
def B_total_1 : TSp :=
  (sSeq (sFor (iAny (tNm 0)) (.nm 2) (sSet 1 (tCall φ_plus [false, false] [] (tACons (tNm 1) (tAOne (tNm 2))))))
    (sRet (tNm 1)))
def T_total : TSp :=
  (sSeq (sSet 1 (tK (.tup [(.int 0), (.int 1)])))
    B_total_1)
def rsum : List Rat → Rat → Rat
  | [], s => s
  | q :: l, s => rsum l (s + q)
theorem total_loop {n : Nat} {E : Ep} {c0 : Ct} {T : TSp} (hT : T = sSet 1 (tCall φ_plus [false, false] [] (tACons (tNm 1) (tAOne (tNm 2))))) : ∀ (l : List Rat) (s : Rat) (k : Nat) (c2 : Ct), (∀ q ∈ l, Bq n q) → Bq k s → k + (l.length + 1) * (n + 1) ≤ 8000 → (∀ c2, E.nx [c0, Fz (rq (rsum l s)), c2]) →
    forK (.nm 2) T (l.map rq) [c0, Fz (rq s), c2] E
  | [], s, k, c2, _, _, _, h => by rw [List.map_nil, for_nil]; exact h c2
  | q :: l, s, k, c2, hl, hs, hk, h => by
    rw [List.map_cons, for_cons]
    subst hT
    walk_at "pm"
    have hq := hl q List.mem_cons_self
    rw [List.length_cons, Nat.succ_mul] at hk
    refine ⟨k, n, s, q, rfl, hs, hq, by omega, ?_⟩
    walk_at "pm"
    exact total_loop rfl l (s + q) (k + n + 1) _ (fun x hx => hl x (List.mem_cons_of_mem _ hx)) (hs.add hq) (by omega) h
def φ_total : Fn := fun cs R0 _ => ∃ (n : Nat) (l : List Rat), (cs = [Fz (.lst (l.map rq))] ∨ cs = [Fz (.tup (l.map rq))]) ∧ (∀ q ∈ l, Bq n q) ∧ 1 + (l.length + 1) * (n + 1) ≤ 8000 ∧ R0 (Fz (rq (rsum l 0))) [.no]
theorem sp_total (cs : List Ct) (R0 : Ct → List Ct → Prop) (E0 : Exn → List Ct → Prop) : φ_total cs R0 E0 → fnOf 2 [] T_total cs R0 E0 := by
  rintro ⟨n, l, hc, hl, hk, h⟩
  rw [fnOf_eq]
  rcases hc with rfl | rfl
  · refine ⟨noOw _ rfl, ?_⟩
    unfold T_total B_total_1
    walk_at "pm"
    refine total_loop rfl l 0 1 _ hl (Bq.zero (by omega)) hk fun c2 => ?_
    walk_at "pm"
    exact h
  · refine ⟨noOw _ rfl, ?_⟩
    unfold T_total B_total_1
    walk_at "pm"
    refine total_loop rfl l 0 1 _ hl (Bq.zero (by omega)) hk fun c2 => ?_
    walk_at "pm"
    exact h
end Pm

namespace Pm
open PySem PySem.Spec PyProof.Rows L2
local macro_rules | `(tactic| walk_at "pm") => `(tactic| simp only [e_fd, fd_ob, fd_fz, fd_ow, fd_dk, lk_hit, lk_miss, lk_nil, pt_hit, pt_miss, pt_nil, nA_alf, vw_alf, af_ob, fcD_fz, fcD_ow, fcD_dk, cf_alf, cf_al, cf_va, afF_ob, alF_at, fzC_alf, afZ_ob, afZ_fz, afZ_ow, stC_alf, e_sFd, sfd_at, e_me, me_ob, oN_none, isOw_ob, e_mk, hd_cons, e_muR, muR1_ow, muR2_ow, isPl_al, isPl_alf, setR_al, setR_alf, setRf_ob, e_dn, e_dkK, dk1_dk, dk2_k, kD_int, kD_str, e_dg, e_di, e_diT, e_dp, e_keyK, e_dcc, dc_nil, dc_cons, e_srt, seqD_l, seqD_t, e_rev, f_lcm, c_inT, c_ninT, nq_1, nq_2, nq_3, nq_4, nq_5, nq_6, nq_7, Bool.false_bne, Bool.true_bne, e_lcO, e_mth, e_mth0, tyK_lst, tyK_str, tyD_lst, tyD_str, f_index, e_iEnum, enK_one, walkE_lst, walkE_tup, e_cSort, srtK_lst, f_maxL, f_minL, shp_rqs, any_rq, sz0, sz1, sz2, sz3, sz4, sz5, sz6, sz7, sz8, ix_pt0, ix_pt1, true_false_F, c_eqB, c_neB, sq_nx, ix_rq0, ix_rq1, c_eqR, c_neR, c_eqR0, c_neR0, isNon_rq, shp_rqT, clsD_rq_tuple, f_len_rq, e_iAny, walkA_lst, walkA_tup, e_oNone, e_oSome, oiK_int, e_slice, sl_lstD, sl_tupD, sl_strD, intK_int, e_chG, e_chT_le_lt, e_chT_lt_le, e_chT_le_le, e_chT_lt_lt, e_ch_le_lt, e_ch_lt_le, e_ch_le_le, e_ch_lt_lt, f_sum, f_all, f_any, e_mu, muN_ow, muK_ow, f_app, f_ext, f_pop, f_ins, sq_rt, sq_bk, sq_ct, sq_ex, lp_nx, lp_ct, lp_bk, lp_rt, lp_ex, fn_nx, fn_rt, fn_ex, oD_some, oD_none, e_nm, nm_fz, nm_ow, nm_dk, e_nmC, nmc_fz, e_K, vw_fz, vw_ow, vw_al, alV_fz, alV_ow, nA_va, nA_al, fzC_fz, fzC_ow, fzC_al, alZ_fz, alZ_ow, stC_va, stC_al, fzL_nil, fzL_cons, e_fzK, b_addI, b_addS, b_addL, b_addT, b_sub, b_mul, b_div, b_mod, b_pow, c_lt, c_le, c_gt, c_ge, c_eqS, c_neS, c_eqI, c_neI, c_eqT, c_neT, c_eqL, c_neL, c_is, c_isn, c_in, c_nin, isNon_non, isNon_int, isNon_str, isNon_tup, isNon_lst, isNon_bl, shp_intT, shp_nonT, shp_blT, shp_ratT, eqD_rat, e_bin, e_cmp, e_cmpT, e_tru, tru_bl, tru_int, tru_non, tru_lst, tru_tup, tru_str, trs_bl, trs_int, trs_non, trs_lst, trs_tup, trs_str, e_and, e_or, e_not, e_yes, isB_bl, e_andV, e_orV, e_notV, e_ifE, e_neg, neg_int, e_aNil, e_aOne, e_aCons, e_tup, e_lst, e_ix, ix_tupD, ix_lstD, ix_strD, e_isi, e_cb, e_cD1, e_cD2, e_list, list_tup, list_lst, list_scr, e_tuple, tup_tup, tup_lst, f_len_tup, f_len_lst, f_len_scr, f_len_str, f_int, f_abs, f_gcd, f_max, f_min, e_call, e_callK, fzM_nil, fzM_f, fzM_t, isOw_fz, isOw_ow, isOw_no, isOw_dk, brs_nil, brs_l, brs_r, cts_nil, cts_l, cts_r, wb_nil, wb_l, wb_r, outs_nil, outs_cons, ret_va, ret_al, e_sNil, e_seq, e_pass, e_brk, e_cnt, e_never, e_ret, e_retN, e_exp, e_if, e_set, e_aug, aug_int, augK_int, e_par, par_2, e_asg, e_sub, subN_ow, subK_ow, e_for, for_nil, for_cons, tg_nm, tg_tp, tgs_nil, tgs_cons, e_rng1, e_rng2, rngL1_1, rngL2_2, rngK1_int, rngK2_int, e_iLst, e_iTup, walkL_lst, walkT_tup, e_lc, lc_nil, lc_cons, wipeE_nil, wipeE_cons, clsD_int_int, clsD_int_bool, clsD_int_str, clsD_int_tuple, clsD_str_str, clsD_str_tuple, clsD_str_int, clsD_tup_tuple, clsD_tup_str, clsD_tup_int, clsD_non_tuple, clsD_non_str, clsD_non_int, clsD_bl_bool, clsD_bl_int, clsD_bl_tuple, atI_0, atI_1, atI_2, atI_3, atI_4, ixN5_0, ixN5_1, ixN5_2, ixN5_3, ixN5_4, List.map_cons, List.map_nil, List.cons_append, List.nil_append, List.append_nil, List.replicate, List.getElem?_cons_zero, List.getElem?_cons_succ, List.getD_cons_zero, List.getD_cons_succ, List.set_cons_zero, List.set_cons_succ, Option.bind_some, Option.bind_none, List.length_cons, List.length_nil, if_true, if_false, Bool.false_eq_true, Bool.not_true, Bool.not_false, Bool.not_eq_true', decide_eq_true_eq, decide_eq_false_iff_not, and_true, true_and, List.mem_cons, List.not_mem_nil, or_false, forall_eq, false_imp_iff, implies_true, List.nodup_nil, List.nodup_cons, not_false_eq_true, List.isEmpty_cons, List.isEmpty_nil, List.tail_cons, List.tail_nil])
def T__law_plus : TSp :=
  (sRet (tCall φ__law_ratio [false, false] [] (tACons (tBin (opB .Add) (tBin (opB .Mult) (tIx (tNm 0) (tK (.int 0))) (tIx (tNm 1) (tK (.int 1)))) (tBin (opB .Mult) (tIx (tNm 1) (tK (.int 0))) (tIx (tNm 0) (tK (.int 1))))) (tAOne (tBin (opB .Mult) (tIx (tNm 0) (tK (.int 1))) (tIx (tNm 1) (tK (.int 1))))))))
def φ__law_plus : Fn := fun cs R0 _ => ∃ (n m : Nat) (a b c d : Int), cs = [Fz (qd a b), Fz (qd c d)] ∧ b ≠ 0 ∧ d ≠ 0 ∧ Bs n a ∧ Bs n b ∧ Bs m c ∧ Bs m d ∧ n + m ≤ 8000 ∧ R0 (Fz (rq ((a : Rat) / (b : Rat) + (c : Rat) / (d : Rat)))) [.no, .no]
theorem sp__law_plus (cs : List Ct) (R0 : Ct → List Ct → Prop) (E0 : Exn → List Ct → Prop) : φ__law_plus cs R0 E0 → fnOf 0 [] T__law_plus cs R0 E0 := by
  rintro ⟨n, m, a, b, c, d, rfl, b0, d0, ba, bb, bc, bd, hn, h⟩
  rw [fnOf_eq]
  refine ⟨noOw _ rfl, ?_⟩
  unfold T__law_plus qd
  walk_at "pm"
  refine ⟨ba.mulOk bd (by omega), bc.mulOk bb (by omega), bb.mulOk bd (by omega), n + m + 1, _, _, rfl, Int.mul_ne_zero b0 d0, ((ba.mul bd).add (bc.mul bb)).mono (by omega), (bb.mul bd).mono (by omega), by omega, ?_⟩
  walk_at "pm"
  have e : ((a * d + c * b : Int) : Rat) / ((b * d : Int) : Rat) = (a : Rat) / (b : Rat) + (c : Rat) / (d : Rat) := by
    rw [Rat.intCast_add, Rat.intCast_mul, Rat.intCast_mul, Rat.intCast_mul]
    have h1 : (b : Rat) ≠ 0 := fun z => b0 (by exact_mod_cast z)
    have h2 : (d : Rat) ≠ 0 := fun z => d0 (by exact_mod_cast z)
    grind
  rw [e]
  exact h
theorem lplus_q {cs : List Ct} {R0 : Ct → List Ct → Prop} {E0 : Exn → List Ct → Prop} (h : ∃ (n m : Nat) (p q : Rat), cs = [Fz (rq p), Fz (rq q)] ∧ Bq n p ∧ Bq m q ∧ n + m ≤ 8000 ∧ R0 (Fz (rq (p + q))) [.no, .no]) : φ__law_plus cs R0 E0 := by
  obtain ⟨n, m, p, q, rfl, hp, hq, hn, h⟩ := h
  refine ⟨n, m, p.num, p.den, q.num, q.den, rfl, den_ne p, den_ne q, hp.1, hp.2, hq.1, hq.2, hn, ?_⟩
  rw [numden, numden]
  exact h
def T__law_minus : TSp :=
  (sRet (tCall φ__law_ratio [false, false] [] (tACons (tBin (opB .Sub) (tBin (opB .Mult) (tIx (tNm 0) (tK (.int 0))) (tIx (tNm 1) (tK (.int 1)))) (tBin (opB .Mult) (tIx (tNm 1) (tK (.int 0))) (tIx (tNm 0) (tK (.int 1))))) (tAOne (tBin (opB .Mult) (tIx (tNm 0) (tK (.int 1))) (tIx (tNm 1) (tK (.int 1))))))))
def φ__law_minus : Fn := fun cs R0 _ => ∃ (n m : Nat) (p q : Rat), cs = [Fz (rq p), Fz (rq q)] ∧ Bq n p ∧ Bq m q ∧ n + m ≤ 8000 ∧ R0 (Fz (rq (p - q))) [.no, .no]
theorem sp__law_minus (cs : List Ct) (R0 : Ct → List Ct → Prop) (E0 : Exn → List Ct → Prop) : φ__law_minus cs R0 E0 → fnOf 0 [] T__law_minus cs R0 E0 := by
  rintro ⟨n, m, p, q, rfl, hp, hq, hn, h⟩
  rw [fnOf_eq]
  refine ⟨noOw _ rfl, ?_⟩
  unfold T__law_minus
  walk_at "pm"
  refine ⟨hp.1.mulOk hq.2 (by omega), hq.1.mulOk hp.2 (by omega), hp.2.mulOk hq.2 (by omega), n + m + 1, _, _, rfl, Int.mul_ne_zero (den_ne p) (den_ne q), ((hp.1.mul hq.2).sub (hq.1.mul hp.2)).mono (by omega), (hp.2.mul hq.2).mono (by omega), by omega, ?_⟩
  walk_at "pm"
  rw [sub_q]
  exact h
def T__law_times : TSp :=
  (sRet (tCall φ__law_ratio [false, false] [] (tACons (tBin (opB .Mult) (tIx (tNm 0) (tK (.int 0))) (tIx (tNm 1) (tK (.int 0)))) (tAOne (tBin (opB .Mult) (tIx (tNm 0) (tK (.int 1))) (tIx (tNm 1) (tK (.int 1))))))))
def φ__law_times : Fn := fun cs R0 _ => ∃ (n m : Nat) (p q : Rat), cs = [Fz (rq p), Fz (rq q)] ∧ Bq n p ∧ Bq m q ∧ n + m ≤ 8000 ∧ R0 (Fz (rq (p * q))) [.no, .no]
theorem sp__law_times (cs : List Ct) (R0 : Ct → List Ct → Prop) (E0 : Exn → List Ct → Prop) : φ__law_times cs R0 E0 → fnOf 0 [] T__law_times cs R0 E0 := by
  rintro ⟨n, m, p, q, rfl, hp, hq, hn, h⟩
  rw [fnOf_eq]
  refine ⟨noOw _ rfl, ?_⟩
  unfold T__law_times
  walk_at "pm"
  refine ⟨hp.1.mulOk hq.1 (by omega), hp.2.mulOk hq.2 (by omega), n + m, _, _, rfl, Int.mul_ne_zero (den_ne p) (den_ne q), hp.1.mul hq.1, hp.2.mul hq.2, by omega, ?_⟩
  walk_at "pm"
  rw [mul_q]
  exact h
def T__law_over : TSp :=
  (sRet (tCall φ__law_ratio [false, false] [] (tACons (tBin (opB .Mult) (tIx (tNm 0) (tK (.int 0))) (tIx (tNm 1) (tK (.int 1)))) (tAOne (tBin (opB .Mult) (tIx (tNm 0) (tK (.int 1))) (tIx (tNm 1) (tK (.int 0))))))))
def φ__law_over : Fn := fun cs R0 _ => ∃ (n m : Nat) (p q : Rat), cs = [Fz (rq p), Fz (rq q)] ∧ q ≠ 0 ∧ Bq n p ∧ Bq m q ∧ n + m ≤ 8000 ∧ R0 (Fz (rq (p / q))) [.no, .no]
theorem sp__law_over (cs : List Ct) (R0 : Ct → List Ct → Prop) (E0 : Exn → List Ct → Prop) : φ__law_over cs R0 E0 → fnOf 0 [] T__law_over cs R0 E0 := by
  rintro ⟨n, m, p, q, rfl, h0, hp, hq, hn, h⟩
  rw [fnOf_eq]
  refine ⟨noOw _ rfl, ?_⟩
  unfold T__law_over
  walk_at "pm"
  refine ⟨hp.1.mulOk hq.2 (by omega), hp.2.mulOk hq.1 (by omega), n + m, _, _, rfl, Int.mul_ne_zero (den_ne p) (num_ne h0), hp.1.mul hq.2, hp.2.mul hq.1, by omega, ?_⟩
  walk_at "pm"
  rw [div_q p q h0]
  exact h
def T__law_less : TSp :=
  (sRet (tCmp .Lt (tBin (opB .Mult) (tIx (tNm 0) (tK (.int 0))) (tIx (tNm 1) (tK (.int 1)))) (tBin (opB .Mult) (tIx (tNm 1) (tK (.int 0))) (tIx (tNm 0) (tK (.int 1))))))
def φ__law_less : Fn := φ_less
theorem sp__law_less (cs : List Ct) (R0 : Ct → List Ct → Prop) (E0 : Exn → List Ct → Prop) : φ__law_less cs R0 E0 → fnOf 0 [] T__law_less cs R0 E0 := sp_less cs R0 E0
def B__law_sum_1 : TSp :=
  (sSeq (sFor (iAny (tNm 0)) (.nm 2) (sSet 1 (tCall φ__law_plus [false, false] [] (tACons (tNm 1) (tAOne (tNm 2))))))
    (sRet (tNm 1)))
def T__law_sum : TSp :=
  (sSeq (sSet 1 (tTup (tACons (tK (.int 0)) (tAOne (tK (.int 1))))))
    B__law_sum_1)
theorem lsum_loop {n N : Nat} {E : Ep} {c0 : Ct} {T : TSp} (hN : n + N ≤ 8000) (hT : T = sSet 1 (tCall φ__law_plus [false, false] [] (tACons (tNm 1) (tAOne (tNm 2))))) : ∀ (l : List Rat) (s : Rat) (c2 : Ct), (∀ q ∈ l, Bq n q) → (∀ k, k ≤ l.length → Bq N (rsum (l.take k) s)) → (∀ c2, E.nx [c0, Fz (rq (rsum l s)), c2]) →
    forK (.nm 2) T (l.map rq) [c0, Fz (rq s), c2] E
  | [], s, c2, _, _, h => by rw [List.map_nil, for_nil]; exact h c2
  | q :: l, s, c2, hl, hs, h => by
    rw [List.map_cons, for_cons]
    subst hT
    walk_at "pm"
    have hq := hl q List.mem_cons_self
    refine lplus_q ⟨N, n, s, q, rfl, hs 0 (by simp), hq, by omega, ?_⟩
    exact lsum_loop hN rfl l (s + q) _ (fun x hx => hl x (List.mem_cons_of_mem _ hx)) (fun k hk => hs (k + 1) (by simp; omega)) h
def φ__law_sum : Fn := fun cs R0 _ => ∃ (n N : Nat) (l : List Rat), cs = [Fz (.lst (l.map rq))] ∧ (∀ q ∈ l, Bq n q) ∧ (∀ k, k ≤ l.length → Bq N (rsum (l.take k) 0)) ∧ n + N ≤ 8000 ∧ R0 (Fz (rq (rsum l 0))) [.no]
theorem rsum_bq {n : Nat} : ∀ (l : List Rat) (s : Rat) (m : Nat), (∀ q ∈ l, Bq n q) → Bq m s → Bq (m + l.length * (n + 1)) (rsum l s)
  | [], s, m, _, hs => by unfold rsum; simpa using hs
  | q :: l, s, m, hl, hs => by
    unfold rsum
    have := rsum_bq (n := n) l (s + q) (m + n + 1) (fun x hx => hl x (List.mem_cons_of_mem _ hx)) (hs.add (hl q List.mem_cons_self))
    rw [List.length_cons, Nat.succ_mul]
    exact this.mono (by omega)
theorem lsum_q {cs : List Ct} {R0 : Ct → List Ct → Prop} {E0 : Exn → List Ct → Prop} (h : ∃ (n : Nat) (l : List Rat), cs = [Fz (.lst (l.map rq))] ∧ (∀ q ∈ l, Bq n q) ∧ 1 + (l.length + 1) * (n + 1) ≤ 8000 ∧ R0 (Fz (rq (rsum l 0))) [.no]) : φ__law_sum cs R0 E0 := by
  obtain ⟨n, l, rfl, hl, hn, h⟩ := h
  rw [Nat.succ_mul] at hn
  refine ⟨n, 1 + l.length * (n + 1), l, rfl, hl, fun k hk => ?_, by omega, h⟩
  have := rsum_bq (n := n) (l.take k) 0 1 (fun q hq => hl q (List.mem_of_mem_take hq)) (Bq.zero (by omega))
  refine this.mono ?_
  have h2 : (l.take k).length * (n + 1) ≤ l.length * (n + 1) := Nat.mul_le_mul_right _ (by rw [List.length_take]; omega)
  omega
theorem sp__law_sum (cs : List Ct) (R0 : Ct → List Ct → Prop) (E0 : Exn → List Ct → Prop) : φ__law_sum cs R0 E0 → fnOf 2 [] T__law_sum cs R0 E0 := by
  rintro ⟨n, N, l, rfl, hl, hk, hN, h⟩
  rw [fnOf_eq]
  refine ⟨noOw _ rfl, ?_⟩
  unfold T__law_sum B__law_sum_1
  walk_at "pm"
  refine lsum_loop hN rfl l 0 _ hl hk fun c2 => ?_
  walk_at "pm"
  exact h
def T__law_drawn : TSp :=
  (sSeq (sIf (tCmpT .Eq (tCall φ__law_draw [true, false] [] (tACons (tNm 0) (tAOne (tK (.int 4))))) (tK (.int 0))) (sRet (tCall φ__law_ratio [false, false] [] (tACons (tBin (opB .Sub) (tCall φ__law_draw [true, false] [] (tACons (tNm 0) (tAOne (tBin (opB .Pow) (tK (.int 10)) (tK (.int 40)))))) (tBin (opB .Mult) (tK (.int 5)) (tBin (opB .Pow) (tK (.int 10)) (tK (.int 39))))) (tAOne (tBin (opB .Add) (tK (.int 1)) (tCall φ__law_draw [true, false] [] (tACons (tNm 0) (tAOne (tBin (opB .Pow) (tK (.int 10)) (tK (.int 30))))))))))) sNil)
    (sRet (tCall φ__law_ratio [false, false] [] (tACons (tBin (opB .Sub) (tCall φ__law_draw [true, false] [] (tACons (tNm 0) (tAOne (tK (.int 25))))) (tK (.int 12))) (tAOne (tBin (opB .Add) (tK (.int 1)) (tCall φ__law_draw [true, false] [] (tACons (tNm 0) (tAOne (tK (.int 12)))))))))))
theorem draw_ok {n : Nat} {p : Pool} {many : Int} {R0 : Ct → List Ct → Prop} {E0 : Exn → List Ct → Prop} (hp : p.Ok (n + 1)) (h0 : 0 < many) (hb : Bs 140 many) (h : ∀ (k : Int) (p' : Pool), 0 ≤ k → k < many → p'.Ok n → R0 (Fz (.int k)) [Wl p'.d, .no]) : φ__law_draw [Wl p.d, Fz (.int many)] R0 E0 :=
  ⟨n, 140, p, many, rfl, hp, h0, hb, by omega, h⟩
def φ__law_drawn : Fn := fun cs R0 _ => ∃ (n : Nat) (p : Pool), cs = [Wl p.d] ∧ p.Ok (n + 3) ∧ ∀ (q : Rat) (p' : Pool), Bq 134 q → p'.Ok n → R0 (Fz (rq q)) [Wl p'.d]
theorem sp__law_drawn (cs : List Ct) (R0 : Ct → List Ct → Prop) (E0 : Exn → List Ct → Prop) : φ__law_drawn cs R0 E0 → fnOf 0 [0] T__law_drawn cs R0 E0 := by
  rintro ⟨n, p, rfl, hp, h⟩
  rw [fnOf_eq]
  refine ⟨ow0 rfl, ?_⟩
  unfold T__law_drawn
  walk_at "pm"
  refine draw_ok hp (by omega) (by decide) fun k p1 k1 k2 hp1 => ?_
  walk_at "pm"
  by_cases h0 : k = 0
  · rw [if_pos h0]
    have e40 : ((10 : Int) ^ (40 : Int).toNat) = 10 ^ 40 := rfl
    have e39 : ((10 : Int) ^ (39 : Int).toNat) = 10 ^ 39 := rfl
    have e30 : ((10 : Int) ^ (30 : Int).toNat) = 10 ^ 30 := rfl
    rw [e40, e39, e30]
    refine ⟨by decide, draw_ok hp1 (by decide) (Bs.of (k := 10 ^ 40) (by decide) (by decide)) fun a p2 a1 a2 hp2 => ?_⟩
    walk_at "pm"
    refine ⟨by decide, (Bs.of (n := 4) (k := 5) (by decide) (by decide)).mulOk (m := 134) (Bs.of (k := 10 ^ 39) (by decide) (by decide)) (by omega), by decide, draw_ok hp2 (by decide) (Bs.of (k := 10 ^ 30) (by decide) (by decide)) fun b p3 b1 b2 hp3 => ?_⟩
    walk_at "pm"
    have ha : Bs 134 (a - 5 * 10 ^ 39) := Bs.of (k := 10 ^ 40) (by omega) (by decide)
    have hb : Bs 134 (1 + b) := Bs.of (k := 10 ^ 40) (by omega) (by decide)
    refine ⟨134, _, _, rfl, by omega, ha, hb, by omega, ?_⟩
    walk_at "pm"
    exact h _ _ (Bq.div ha hb (by omega)) hp3
  · rw [if_neg h0]
    refine draw_ok hp1 (by omega) (by decide) fun a p2 a1 a2 hp2 => ?_
    walk_at "pm"
    refine draw_ok hp2 (by omega) (by decide) fun b p3 b1 b2 hp3 => ?_
    walk_at "pm"
    have ha : Bs 134 (a - 12) := Bs.of (k := 10 ^ 40) (by omega) (by decide)
    have hb : Bs 134 (1 + b) := Bs.of (k := 10 ^ 40) (by omega) (by decide)
    refine ⟨134, _, _, rfl, by omega, ha, hb, by omega, ?_⟩
    walk_at "pm"
    exact h _ _ (Bq.div ha hb (by omega)) hp3
end Pm

namespace Pm
open PySem PySem.Spec PyProof.Rows L2
local macro_rules | `(tactic| walk_at "pm") => `(tactic| simp only [e_fd, fd_ob, fd_fz, fd_ow, fd_dk, lk_hit, lk_miss, lk_nil, pt_hit, pt_miss, pt_nil, nA_alf, vw_alf, af_ob, fcD_fz, fcD_ow, fcD_dk, cf_alf, cf_al, cf_va, afF_ob, alF_at, fzC_alf, afZ_ob, afZ_fz, afZ_ow, stC_alf, e_sFd, sfd_at, e_me, me_ob, oN_none, isOw_ob, e_mk, hd_cons, e_muR, muR1_ow, muR2_ow, isPl_al, isPl_alf, setR_al, setR_alf, setRf_ob, e_dn, e_dkK, dk1_dk, dk2_k, kD_int, kD_str, e_dg, e_di, e_diT, e_dp, e_keyK, e_dcc, dc_nil, dc_cons, e_srt, seqD_l, seqD_t, e_rev, f_lcm, c_inT, c_ninT, nq_1, nq_2, nq_3, nq_4, nq_5, nq_6, nq_7, Bool.false_bne, Bool.true_bne, e_lcO, e_mth, e_mth0, tyK_lst, tyK_str, tyD_lst, tyD_str, f_index, e_iEnum, enK_one, walkE_lst, walkE_tup, e_cSort, srtK_lst, f_maxL, f_minL, shp_rqs, any_rq, sz0, sz1, sz2, sz3, sz4, sz5, sz6, sz7, sz8, ix_pt0, ix_pt1, true_false_F, c_eqB, c_neB, sq_nx, ix_rq0, ix_rq1, c_eqR, c_neR, c_eqR0, c_neR0, isNon_rq, shp_rqT, clsD_rq_tuple, f_len_rq, e_iAny, walkA_lst, walkA_tup, e_oNone, e_oSome, oiK_int, e_slice, sl_lstD, sl_tupD, sl_strD, intK_int, e_chG, e_chT_le_lt, e_chT_lt_le, e_chT_le_le, e_chT_lt_lt, e_ch_le_lt, e_ch_lt_le, e_ch_le_le, e_ch_lt_lt, f_sum, f_all, f_any, e_mu, muN_ow, muK_ow, f_app, f_ext, f_pop, f_ins, sq_rt, sq_bk, sq_ct, sq_ex, lp_nx, lp_ct, lp_bk, lp_rt, lp_ex, fn_nx, fn_rt, fn_ex, oD_some, oD_none, e_nm, nm_fz, nm_ow, nm_dk, e_nmC, nmc_fz, e_K, vw_fz, vw_ow, vw_al, alV_fz, alV_ow, nA_va, nA_al, fzC_fz, fzC_ow, fzC_al, alZ_fz, alZ_ow, stC_va, stC_al, fzL_nil, fzL_cons, e_fzK, b_addI, b_addS, b_addL, b_addT, b_sub, b_mul, b_div, b_mod, b_pow, c_lt, c_le, c_gt, c_ge, c_eqS, c_neS, c_eqI, c_neI, c_eqT, c_neT, c_eqL, c_neL, c_is, c_isn, c_in, c_nin, isNon_non, isNon_int, isNon_str, isNon_tup, isNon_lst, isNon_bl, shp_intT, shp_nonT, shp_blT, shp_ratT, eqD_rat, e_bin, e_cmp, e_cmpT, e_tru, tru_bl, tru_int, tru_non, tru_lst, tru_tup, tru_str, trs_bl, trs_int, trs_non, trs_lst, trs_tup, trs_str, e_and, e_or, e_not, e_yes, isB_bl, e_andV, e_orV, e_notV, e_ifE, e_neg, neg_int, e_aNil, e_aOne, e_aCons, e_tup, e_lst, e_ix, ix_tupD, ix_lstD, ix_strD, e_isi, e_cb, e_cD1, e_cD2, e_list, list_tup, list_lst, list_scr, e_tuple, tup_tup, tup_lst, f_len_tup, f_len_lst, f_len_scr, f_len_str, f_int, f_abs, f_gcd, f_max, f_min, e_call, e_callK, fzM_nil, fzM_f, fzM_t, isOw_fz, isOw_ow, isOw_no, isOw_dk, brs_nil, brs_l, brs_r, cts_nil, cts_l, cts_r, wb_nil, wb_l, wb_r, outs_nil, outs_cons, ret_va, ret_al, e_sNil, e_seq, e_pass, e_brk, e_cnt, e_never, e_ret, e_retN, e_exp, e_if, e_set, e_aug, aug_int, augK_int, e_par, par_2, e_asg, e_sub, subN_ow, subK_ow, e_for, for_nil, for_cons, tg_nm, tg_tp, tgs_nil, tgs_cons, e_rng1, e_rng2, rngL1_1, rngL2_2, rngK1_int, rngK2_int, e_iLst, e_iTup, walkL_lst, walkT_tup, e_lc, lc_nil, lc_cons, wipeE_nil, wipeE_cons, clsD_int_int, clsD_int_bool, clsD_int_str, clsD_int_tuple, clsD_str_str, clsD_str_tuple, clsD_str_int, clsD_tup_tuple, clsD_tup_str, clsD_tup_int, clsD_non_tuple, clsD_non_str, clsD_non_int, clsD_bl_bool, clsD_bl_int, clsD_bl_tuple, atI_0, atI_1, atI_2, atI_3, atI_4, ixN5_0, ixN5_1, ixN5_2, ixN5_3, ixN5_4, List.map_cons, List.map_nil, List.cons_append, List.nil_append, List.append_nil, List.replicate, List.getElem?_cons_zero, List.getElem?_cons_succ, List.getD_cons_zero, List.getD_cons_succ, List.set_cons_zero, List.set_cons_succ, Option.bind_some, Option.bind_none, List.length_cons, List.length_nil, if_true, if_false, Bool.false_eq_true, Bool.not_true, Bool.not_false, Bool.not_eq_true', decide_eq_true_eq, decide_eq_false_iff_not, and_true, true_and, List.mem_cons, List.not_mem_nil, or_false, forall_eq, false_imp_iff, implies_true, List.nodup_nil, List.nodup_cons, not_false_eq_true, List.isEmpty_cons, List.isEmpty_nil, List.tail_cons, List.tail_nil])
def T__law_pick : TSp :=
  (sRet (tIx (tNm 1) (tCall φ__law_draw [true, false] [] (tACons (tNm 0) (tAOne (tCb (cD1 fLen) (tAOne (tNm 1))))))))
def φ__law_pick : Fn := fun cs R0 _ => ∃ (n : Nat) (p : Pool) (l : List D), cs = [Wl p.d, Fz (.lst l)] ∧ p.Ok (n + 1) ∧ 1 ≤ l.length ∧ l.length ≤ 10000 ∧ ∀ (d : D) (p' : Pool), d ∈ l → p'.Ok n → R0 (Fz d) [Wl p'.d, .no]
theorem sp__law_pick (cs : List Ct) (R0 : Ct → List Ct → Prop) (E0 : Exn → List Ct → Prop) : φ__law_pick cs R0 E0 → fnOf 0 [0] T__law_pick cs R0 E0 := by
  rintro ⟨n, p, l, rfl, hp, h1, h2, h⟩
  rw [fnOf_eq]
  refine ⟨ow0 rfl, ?_⟩
  unfold T__law_pick
  walk_at "pm"
  refine draw_ok (n := n) hp (by omega) ((Bs.small (by omega) (by omega)).mono (by omega)) fun k p1 k1 k2 hp1 => ?_
  walk_at "pm"
  have e : l[k.toNat]? = some l[k.toNat] := List.getElem?_eq_getElem (by omega)
  have e2 := atI_nat e
  rw [show ((k.toNat : Nat) : Int) = k by omega] at e2
  rw [e2]
  exact h _ p1 (List.getElem_mem (by omega)) hp1
end Pm

namespace Pm
open PySem PySem.Spec PyProof.Rows L2
theorem rq_inv {n : Int} (h : 0 < n) : rq ((1 : Rat) / (n : Rat)) = .tup [.int 1, .int n] := by
  have e := rat_mkR (a := 1) (b := n) (by omega)
  have e2 : ((1 : Int) : Rat) = 1 := rfl
  rw [e2] at e
  rw [← e]
  unfold mkR rat
  have g : Nat.gcd (1 : Int).natAbs n.natAbs = 1 := Nat.gcd_one_left _
  rw [if_neg (by omega), g]
  simp
theorem rq_hf : rq ((1 : Rat) / 2) = .tup [.int 1, .int 2] := rq_inv (n := 2) (by omega)
/-! slices -/
theorem cut_take (l : List D) (k : Nat) : cutD l none (some (k : Int)) = l.take k := by
  unfold cutD
  rw [HT.sIx_nat]
  show (l.drop 0).take (min k l.length - 0) = _
  rw [List.drop_zero, Nat.sub_zero]
  by_cases h : k ≤ l.length
  · rw [Nat.min_eq_left h]
  · rw [Nat.min_eq_right (by omega), List.take_length, List.take_of_length_le (by omega)]
theorem cut_drop (l : List D) (k : Nat) : cutD l (some (k : Int)) none = l.drop k := by
  unfold cutD
  rw [HT.sIx_nat]
  show (l.drop (min k l.length)).take (l.length - min k l.length) = _
  by_cases h : k ≤ l.length
  · rw [Nat.min_eq_left h, List.take_of_length_le (by rw [List.length_drop]; omega)]
  · rw [Nat.min_eq_right (by omega), List.drop_length, List.drop_eq_nil_of_le (by omega)]; simp
/-! ## jobs, pieces, sums: plain -/
structure Job where
  nm : Str
  c : Int
  d : Int
  w : Int
def jbD (j : Job) : D := .tup [.str j.nm, .int j.c, .int j.d, .int j.w]
def heads : List Str := ["", "u", "vw", "xyz"]
def tails : List Str := ["", "z", "yy"]
def ltr (k : Nat) : Str := ⟨#[97 + k]⟩
def NameOk (k : Nat) (s : Str) : Prop := ∃ h ∈ heads, ∃ t ∈ tails, s = h ++ ltr k ++ t
def keyS (s : Str) : List Nat := s.cps.toList.filter fun c => decide (c < 117)
theorem cps_app (a b : Str) : (a ++ b).cps.toList = a.cps.toList ++ b.cps.toList := by
  show (a.cps ++ b.cps).toList = _
  simp
theorem keyS_app (a b : Str) : keyS (a ++ b) = keyS a ++ keyS b := by
  unfold keyS; rw [cps_app, List.filter_append]
theorem keyS_heads : ∀ h ∈ heads, keyS h = [] := by decide +kernel
theorem keyS_tails : ∀ h ∈ tails, keyS h = [] := by decide +kernel
theorem NameOk.key {k : Nat} {s : Str} (h : NameOk k s) (hk : k < 20) : keyS s = [97 + k] := by
  obtain ⟨a, ha, b, hb, rfl⟩ := h
  rw [keyS_app, keyS_app, keyS_heads a ha, keyS_tails b hb]
  show [] ++ (([97 + k] : List Nat).filter fun c => decide (c < 117)) ++ [] = _
  have : decide (97 + k < 117) = true := decide_eq_true (by omega)
  simp [List.filter_cons, this]
theorem NameOk.inj {k m : Nat} {s : Str} (h : NameOk k s) (h' : NameOk m s) (hk : k < 20) (hm : m < 20) : k = m := by
  have e := (h.key hk).symm.trans (h'.key hm)
  simp at e; omega
theorem heads_len : ∀ h ∈ heads, h.length ≤ 3 := by decide +kernel
theorem tails_len : ∀ h ∈ tails, h.length ≤ 2 := by decide +kernel
theorem len_app (a b : Str) : (a ++ b).length = a.length + b.length := by
  show (a.cps ++ b.cps).size = _
  rw [Array.size_append]; rfl
theorem NameOk.len {k : Nat} {s : Str} (h : NameOk k s) : s.length ≤ 6 := by
  obtain ⟨a, ha, b, hb, rfl⟩ := h
  rw [len_app, len_app]
  have h1 := heads_len a ha
  have h2 := tails_len b hb
  have h3 : (ltr k).length = 1 := rfl
  omega
theorem heads_ok : ∀ h ∈ heads, PyData.strOk h = true := by decide +kernel
theorem tails_ok : ∀ h ∈ tails, PyData.strOk h = true := by decide +kernel
theorem strOk_app {a b : Str} (h1 : PyData.strOk a = true) (h2 : PyData.strOk b = true) : PyData.strOk (a ++ b) = true := by
  unfold PyData.strOk at *
  rw [← Array.all_toList] at *
  rw [cps_app, List.all_append, h1, h2]; rfl
theorem NameOk.ok {k : Nat} {s : Str} (h : NameOk k s) (hk : k < 20) : PyData.strOk s = true := by
  obtain ⟨a, ha, b, hb, rfl⟩ := h
  refine strOk_app (strOk_app (heads_ok a ha) ?_) (tails_ok b hb)
  unfold PyData.strOk ltr
  simp
  omega
structure JobOk (k : Nat) (j : Job) : Prop where
  nm : NameOk k j.nm
  c0 : 0 ≤ j.c
  cd : j.c < j.d
  dl : j.d ≤ 10000
  w1 : 1 ≤ j.w
  wl : j.w ≤ 10000
def JobsOk (js : List Job) : Prop := js.length ≤ 20 ∧ ∀ (k : Nat) (j : Job), js[k]? = some j → JobOk k j
theorem JobsOk.inj {js : List Job} (h : JobsOk js) {i k : Nat} {a b : Job} (ha : js[i]? = some a) (hb : js[k]? = some b) (e : a.nm = b.nm) : i = k := by
  have l1 := (List.getElem?_eq_some_iff.mp ha).1
  have l2 := (List.getElem?_eq_some_iff.mp hb).1
  have := h.1
  exact (h.2 i a ha).nm.inj (e ▸ (h.2 k b hb).nm) (by omega) (by omega)
/-- a piece -/
structure Pc where
  s : Rat
  e : Rat
  nm : Str
  v : Rat
def pcD (p : Pc) : D := .tup [rq p.s, rq p.e, .str p.nm, rq p.v]
/-! sums -/
def sm : List Rat → Rat
  | [] => 0
  | a :: l => a + sm l
theorem sm_app : ∀ a b : List Rat, sm (a ++ b) = sm a + sm b
  | [], b => by rw [List.nil_append]; unfold sm; grind
  | x :: a, b => by
    show x + sm (a ++ b) = x + sm a + sm b
    rw [sm_app a b]; grind
theorem rsum_sm : ∀ (l : List Rat) (s : Rat), rsum l s = s + sm l
  | [], s => by unfold rsum sm; grind
  | a :: l, s => by unfold rsum sm; rw [rsum_sm l]; grind
theorem sm_set : ∀ (l : List Rat) (k : Nat) (x : Rat), l[k]? = some 0 → sm (l.set k x) = sm l + x
  | [], k, x, h => by simp at h
  | a :: l, 0, x, h => by
    simp at h; subst h
    rw [List.set_cons_zero]
    unfold sm; grind
  | a :: l, k + 1, x, h => by
    rw [List.set_cons_succ]
    unfold sm
    rw [sm_set l k x (by simpa using h)]; grind
/-- the sum of f over 0 .. n - 1 -/
def sr (f : Nat → Rat) : Nat → Rat
  | 0 => 0
  | n + 1 => sr f n + f n
theorem sr_congr {f g : Nat → Rat} : ∀ {n : Nat}, (∀ j, j < n → f j = g j) → sr f n = sr g n
  | 0, _ => rfl
  | n + 1, h => by
    unfold sr
    rw [sr_congr (n := n) fun j hj => h j (by omega), h n (by omega)]
theorem sr_add {f : Nat → Rat} (a : Nat) : ∀ b : Nat, sr f (a + b) = sr f a + sr (fun j => f (a + j)) b
  | 0 => by rw [Nat.add_zero]; show _ = _ + (0 : Rat); grind
  | b + 1 => by
    rw [show a + (b + 1) = (a + b) + 1 by omega]
    show sr f (a + b) + f (a + b) = sr f a + (sr (fun j => f (a + j)) b + f (a + b))
    rw [sr_add a b]; grind
theorem sr_rot {f : Nat → Rat} {n s : Nat} (hs : s < n) : sr (fun j => f ((j + s) % n)) n = sr f n := by
  have e1 : sr (fun j => f ((j + s) % n)) ((n - s) + s) = sr (fun j => f ((j + s) % n)) (n - s) + sr (fun j => f (((n - s + j) + s) % n)) s := sr_add (f := fun j => f ((j + s) % n)) (n - s) s
  rw [show n - s + s = n by omega] at e1
  rw [e1]
  have e2 : sr (fun j => f ((j + s) % n)) (n - s) = sr (fun j => f (s + j)) (n - s) := sr_congr fun j hj => by
    rw [Nat.mod_eq_of_lt (by omega), Nat.add_comm]
  have e3 : sr (fun j => f (((n - s + j) + s) % n)) s = sr f s := sr_congr fun j hj => by
    rw [show n - s + j + s = n + j by omega, Nat.add_mod_left, Nat.mod_eq_of_lt (by omega)]
  rw [e2, e3]
  have e4 := sr_add (f := f) s (n - s)
  rw [show s + (n - s) = n by omega] at e4
  rw [e4]; grind
theorem sr_nonneg {f : Nat → Rat} : ∀ {n : Nat}, (∀ j, j < n → 0 ≤ f j) → 0 ≤ sr f n
  | 0, _ => Rat.le_refl
  | n + 1, h => by
    have := sr_nonneg (f := f) (n := n) fun j hj => h j (by omega)
    have := h n (by omega)
    unfold sr; grind
theorem sr_mono {f : Nat → Rat} {m n : Nat} (hm : m ≤ n) (h : ∀ j, j < n → 0 ≤ f j) : sr f m ≤ sr f n := by
  obtain ⟨b, rfl⟩ : ∃ b, n = m + b := ⟨n - m, by omega⟩
  rw [sr_add]
  have := sr_nonneg (f := fun j => f (m + j)) (n := b) fun j hj => h _ (by omega)
  grind
theorem sm_sr : ∀ (l : List Rat), sm l = sr (fun k => l.getD k 0) l.length
  | [] => rfl
  | a :: l => by
    rw [List.length_cons, Nat.add_comm, sr_add]
    have e : sr (fun j => (a :: l).getD (1 + j) 0) l.length = sr (fun k => l.getD k 0) l.length := sr_congr fun j _ => by
      rw [Nat.add_comm]; rfl
    rw [e, ← sm_sr l]
    show a + sm l = (0 + a) + sm l
    grind
/-! what a plan does -/
def wk (p : Pc) : Rat := p.v * (p.e - p.s)
def doneW (pl : List Pc) (nm : Str) : Rat := sm (pl.map fun p => if p.nm = nm then wk p else 0)
theorem doneW_app (a b : List Pc) (nm : Str) : doneW (a ++ b) nm = doneW a nm + doneW b nm := by
  unfold doneW; rw [List.map_append, sm_app]
theorem doneW_one (p : Pc) (nm : Str) : doneW [p] nm = if p.nm = nm then wk p else 0 := by
  unfold doneW
  show (if p.nm = nm then wk p else 0) + (0 : Rat) = _
  grind
structure PlanOk (js : List Job) (pl : List Pc) : Prop where
  pos : ∀ p ∈ pl, p.s < p.e ∧ 0 < p.v
  ord : pl.Pairwise fun p q => p.e ≤ q.s
  win : ∀ p ∈ pl, ∃ j ∈ js, j.nm = p.nm ∧ (j.c : Rat) ≤ p.s ∧ p.e ≤ (j.d : Rat)
  wrk : ∀ j ∈ js, doneW pl j.nm = (j.w : Rat)
def PlanBq (n : Nat) (pl : List Pc) : Prop := ∀ p ∈ pl, Bq n p.s ∧ Bq n p.e ∧ Bq n p.v ∧ p.nm.length ≤ 8 ∧ PyData.strOk p.nm = true
end Pm

namespace Pm
open PySem PySem.Spec PyProof.Rows L2
theorem JobsOk.nd {js : List Job} (h : JobsOk js) : (js.map (·.nm)).Nodup := by
  unfold List.Nodup
  rw [List.pairwise_map, List.pairwise_iff_getElem]
  intro i j hi hj hij e
  have o1 := h.2 i js[i] (List.getElem?_eq_getElem hi)
  have o2 := h.2 j js[j] (List.getElem?_eq_getElem hj)
  have hl := h.1
  have n2 := o2.nm
  rw [← e] at n2
  have := NameOk.inj o1.nm n2 (by omega) (by omega)
  omega
end Pm

namespace Pm
open PySem PySem.Spec PyProof.Rows L2
local macro_rules | `(tactic| walk_at "pm") => `(tactic| simp only [e_fd, fd_ob, fd_fz, fd_ow, fd_dk, lk_hit, lk_miss, lk_nil, pt_hit, pt_miss, pt_nil, nA_alf, vw_alf, af_ob, fcD_fz, fcD_ow, fcD_dk, cf_alf, cf_al, cf_va, afF_ob, alF_at, fzC_alf, afZ_ob, afZ_fz, afZ_ow, stC_alf, e_sFd, sfd_at, e_me, me_ob, oN_none, isOw_ob, e_mk, hd_cons, e_muR, muR1_ow, muR2_ow, isPl_al, isPl_alf, setR_al, setR_alf, setRf_ob, e_dn, e_dkK, dk1_dk, dk2_k, kD_int, kD_str, e_dg, e_di, e_diT, e_dp, e_keyK, e_dcc, dc_nil, dc_cons, e_srt, seqD_l, seqD_t, e_rev, f_lcm, c_inT, c_ninT, nq_1, nq_2, nq_3, nq_4, nq_5, nq_6, nq_7, Bool.false_bne, Bool.true_bne, e_lcO, e_mth, e_mth0, tyK_lst, tyK_str, tyD_lst, tyD_str, f_index, e_iEnum, enK_one, walkE_lst, walkE_tup, e_cSort, srtK_lst, f_maxL, f_minL, shp_rqs, any_rq, sz0, sz1, sz2, sz3, sz4, sz5, sz6, sz7, sz8, ix_pt0, ix_pt1, true_false_F, c_eqB, c_neB, sq_nx, ix_rq0, ix_rq1, c_eqR, c_neR, c_eqR0, c_neR0, isNon_rq, shp_rqT, clsD_rq_tuple, f_len_rq, e_iAny, walkA_lst, walkA_tup, e_oNone, e_oSome, oiK_int, e_slice, sl_lstD, sl_tupD, sl_strD, intK_int, e_chG, e_chT_le_lt, e_chT_lt_le, e_chT_le_le, e_chT_lt_lt, e_ch_le_lt, e_ch_lt_le, e_ch_le_le, e_ch_lt_lt, f_sum, f_all, f_any, e_mu, muN_ow, muK_ow, f_app, f_ext, f_pop, f_ins, sq_rt, sq_bk, sq_ct, sq_ex, lp_nx, lp_ct, lp_bk, lp_rt, lp_ex, fn_nx, fn_rt, fn_ex, oD_some, oD_none, e_nm, nm_fz, nm_ow, nm_dk, e_nmC, nmc_fz, e_K, vw_fz, vw_ow, vw_al, alV_fz, alV_ow, nA_va, nA_al, fzC_fz, fzC_ow, fzC_al, alZ_fz, alZ_ow, stC_va, stC_al, fzL_nil, fzL_cons, e_fzK, b_addI, b_addS, b_addL, b_addT, b_sub, b_mul, b_div, b_mod, b_pow, c_lt, c_le, c_gt, c_ge, c_eqS, c_neS, c_eqI, c_neI, c_eqT, c_neT, c_eqL, c_neL, c_is, c_isn, c_in, c_nin, isNon_non, isNon_int, isNon_str, isNon_tup, isNon_lst, isNon_bl, shp_intT, shp_nonT, shp_blT, shp_ratT, eqD_rat, e_bin, e_cmp, e_cmpT, e_tru, tru_bl, tru_int, tru_non, tru_lst, tru_tup, tru_str, trs_bl, trs_int, trs_non, trs_lst, trs_tup, trs_str, e_and, e_or, e_not, e_yes, isB_bl, e_andV, e_orV, e_notV, e_ifE, e_neg, neg_int, e_aNil, e_aOne, e_aCons, e_tup, e_lst, e_ix, ix_tupD, ix_lstD, ix_strD, e_isi, e_cb, e_cD1, e_cD2, e_list, list_tup, list_lst, list_scr, e_tuple, tup_tup, tup_lst, f_len_tup, f_len_lst, f_len_scr, f_len_str, f_int, f_abs, f_gcd, f_max, f_min, e_call, e_callK, fzM_nil, fzM_f, fzM_t, isOw_fz, isOw_ow, isOw_no, isOw_dk, brs_nil, brs_l, brs_r, cts_nil, cts_l, cts_r, wb_nil, wb_l, wb_r, outs_nil, outs_cons, ret_va, ret_al, e_sNil, e_seq, e_pass, e_brk, e_cnt, e_never, e_ret, e_retN, e_exp, e_if, e_set, e_aug, aug_int, augK_int, e_par, par_2, e_asg, e_sub, subN_ow, subK_ow, e_for, for_nil, for_cons, tg_nm, tg_tp, tgs_nil, tgs_cons, e_rng1, e_rng2, rngL1_1, rngL2_2, rngK1_int, rngK2_int, e_iLst, e_iTup, walkL_lst, walkT_tup, e_lc, lc_nil, lc_cons, wipeE_nil, wipeE_cons, clsD_int_int, clsD_int_bool, clsD_int_str, clsD_int_tuple, clsD_str_str, clsD_str_tuple, clsD_str_int, clsD_tup_tuple, clsD_tup_str, clsD_tup_int, clsD_non_tuple, clsD_non_str, clsD_non_int, clsD_bl_bool, clsD_bl_int, clsD_bl_tuple, atI_0, atI_1, atI_2, atI_3, atI_4, ixN5_0, ixN5_1, ixN5_2, ixN5_3, ixN5_4, List.map_cons, List.map_nil, List.cons_append, List.nil_append, List.append_nil, List.replicate, List.getElem?_cons_zero, List.getElem?_cons_succ, List.getD_cons_zero, List.getD_cons_succ, List.set_cons_zero, List.set_cons_succ, Option.bind_some, Option.bind_none, List.length_cons, List.length_nil, if_true, if_false, Bool.false_eq_true, Bool.not_true, Bool.not_false, Bool.not_eq_true', decide_eq_true_eq, decide_eq_false_iff_not, and_true, true_and, List.mem_cons, List.not_mem_nil, or_false, forall_eq, false_imp_iff, implies_true, List.nodup_nil, List.nodup_cons, not_false_eq_true, List.isEmpty_cons, List.isEmpty_nil, List.tail_cons, List.tail_nil])
def B__law_name_1 : TSp :=
  (sSeq (sSet 3 (tIx (tLst (tACons (tK (.str "")) (tACons (tK (.str "u")) (tACons (tK (.str "vw")) (tAOne (tK (.str "xyz"))))))) (tCall φ__law_draw [true, false] [] (tACons (tNm 0) (tAOne (tK (.int 4)))))))
    (sRet (tBin (opB .Add) (tBin (opB .Add) (tNm 3) (tNm 2)) (tIx (tLst (tACons (tK (.str "")) (tACons (tK (.str "z")) (tAOne (tK (.str "yy")))))) (tCall φ__law_draw [true, false] [] (tACons (tNm 0) (tAOne (tK (.int 3)))))))))
def T__law_name : TSp :=
  (sSeq (sSet 2 (tIx (tK (.str "abcdefghijklmnopqrst")) (tNm 1)))
    B__law_name_1)
theorem at_ltr : ∀ k : Nat, k < 20 → (("abcdefghijklmnopqrst" : Str)).cps.toList[k]? = some (97 + k) := by decide +kernel
def φ__law_name : Fn := fun cs R0 _ => ∃ (n k : Nat) (p : Pool), cs = [Wl p.d, Fz (.int (k : Nat))] ∧ k < 20 ∧ p.Ok (n + 2) ∧ ∀ (s : Str) (p' : Pool), NameOk k s → p'.Ok n → R0 (Fz (.str s)) [Wl p'.d, .no]
theorem atI_mem {α : Type} {l : List α} {k : Int} (h0 : 0 ≤ k) (h1 : k < (l.length : Nat)) : ∃ x, x ∈ l ∧ atI l k = some x := by
  have e := atI_of (l := l) h0 (by omega)
  exact ⟨_, List.getElem_mem _, e⟩
theorem sp__law_name (cs : List Ct) (R0 : Ct → List Ct → Prop) (E0 : Exn → List Ct → Prop) : φ__law_name cs R0 E0 → fnOf 2 [0] T__law_name cs R0 E0 := by
  rintro ⟨n, k, p, rfl, hk, hp, h⟩
  rw [fnOf_eq]
  refine ⟨ow0 rfl, ?_⟩
  unfold T__law_name B__law_name_1
  walk_at "pm"
  refine ⟨by decide +kernel, ?_⟩
  rw [atI_k k (at_ltr k hk)]
  walk_at "pm"
  refine draw_ok (n := n + 1) hp (by decide) (by decide) fun a p1 a1 a2 hp1 => ?_
  walk_at "pm"
  obtain ⟨x, hx, ex⟩ := atI_mem (l := heads.map D.str) a1 (by show a < 4; exact a2)
  obtain ⟨hd, hh, rfl⟩ := List.mem_map.mp hx
  have ex : atI [D.str "", D.str "u", D.str "vw", D.str "xyz"] a = some (.str hd) := ex
  rw [ex]
  walk_at "pm"
  have l1 := heads_len hd hh
  have l3 : (ltr k).length = 1 := rfl
  refine ⟨line_small (by show hd.length + (ltr k).length ≤ _; omega), ?_⟩
  refine draw_ok (n := n) hp1 (by decide) (by decide) fun b p2 b1 b2 hp2 => ?_
  walk_at "pm"
  obtain ⟨x, hx, ex⟩ := atI_mem (l := tails.map D.str) b1 (by show b < 3; exact b2)
  obtain ⟨tl, ht, rfl⟩ := List.mem_map.mp hx
  have ex : atI [D.str "", D.str "z", D.str "yy"] b = some (.str tl) := ex
  rw [ex]
  have l2 := tails_len tl ht
  walk_at "pm"
  refine ⟨line_small ?_, ?_⟩
  · show (hd ++ ltr k).length + tl.length ≤ _
    rw [len_app]; omega
  · exact h (hd ++ ltr k ++ tl) p2 ⟨hd, hh, tl, ht, rfl⟩ hp2
def B__law_window_1 : TSp :=
  (sSeq (sSet 2 (tCall φ__law_draw [true, false] [] (tACons (tNm 0) (tAOne (tK (.int 10000))))))
    (sRet (tTup (tACons (tNm 2) (tAOne (tBin (opB .Add) (tBin (opB .Add) (tNm 2) (tK (.int 1))) (tCall φ__law_draw [true, false] [] (tACons (tNm 0) (tAOne (tBin (opB .Sub) (tK (.int 10000)) (tNm 2)))))))))))
def B__law_window_2 : TSp :=
  (sSeq (sSet 2 (tCall φ__law_draw [true, false] [] (tACons (tNm 0) (tAOne (tK (.int 20))))))
    (sRet (tTup (tACons (tNm 2) (tAOne (tBin (opB .Add) (tBin (opB .Add) (tNm 2) (tK (.int 1))) (tCall φ__law_draw [true, false] [] (tACons (tNm 0) (tAOne (tK (.int 12)))))))))))
def T__law_window : TSp :=
  (sSeq (sIf (tTru (tNm 1)) B__law_window_1 sNil)
    B__law_window_2)
def φ__law_window : Fn := fun cs R0 _ => ∃ (n : Nat) (b : Bool) (p : Pool), cs = [Wl p.d, Fz (.bl b)] ∧ p.Ok (n + 2) ∧ ∀ (c d : Int) (p' : Pool), 0 ≤ c → c < d → d ≤ 10000 → p'.Ok n → R0 (Fz (.tup [.int c, .int d])) [Wl p'.d, .no]
theorem sp__law_window (cs : List Ct) (R0 : Ct → List Ct → Prop) (E0 : Exn → List Ct → Prop) : φ__law_window cs R0 E0 → fnOf 1 [0] T__law_window cs R0 E0 := by
  rintro ⟨n, b, p, rfl, hp, h⟩
  rw [fnOf_eq]
  refine ⟨ow0 rfl, ?_⟩
  unfold T__law_window
  cases b with
  | true =>
    walk_at "pm"
    unfold B__law_window_1
    walk_at "pm"
    refine draw_ok (n := n + 1) hp (by decide) (by decide) fun a p1 a1 a2 hp1 => ?_
    walk_at "pm"
    refine draw_ok (n := n) hp1 (by omega) ((Bs.small (by omega) (by omega)).mono (by omega)) fun k p2 k1 k2 hp2 => ?_
    walk_at "pm"
    exact h _ _ p2 a1 (by omega) (by omega) hp2
  | false =>
    walk_at "pm"
    unfold B__law_window_2
    walk_at "pm"
    refine draw_ok (n := n + 1) hp (by decide) (by decide) fun a p1 a1 a2 hp1 => ?_
    walk_at "pm"
    refine draw_ok (n := n) hp1 (by decide) (by decide) fun k p2 k1 k2 hp2 => ?_
    walk_at "pm"
    exact h _ _ p2 a1 (by omega) (by omega) hp2
def B__law_jobs_1 : TSp :=
  (sSeq (sSet 8 (tIx (tNm 3) (tCall φ__law_draw [true, false] [] (tACons (tNm 0) (tAOne (tNm 4))))))
    (sPar 5 6 (tACons (tIx (tNm 8) (tK (.int 1))) (tAOne (tIx (tNm 8) (tK (.int 2)))))))
def B__law_jobs_2 : TSp :=
  (sIf (tCmpT .Lt (tIx (tNm 8) (tK (.int 2))) (tK (.int 9990))) (sPar 5 6 (tACons (tIx (tNm 8) (tK (.int 2))) (tAOne (tBin (opB .Add) (tBin (opB .Add) (tIx (tNm 8) (tK (.int 2))) (tK (.int 1))) (tCall φ__law_draw [true, false] [] (tACons (tNm 0) (tAOne (tK (.int 9))))))))) sNil)
def B__law_jobs_3 : TSp :=
  (sSeq (sSet 8 (tIx (tNm 3) (tCall φ__law_draw [true, false] [] (tACons (tNm 0) (tAOne (tNm 4))))))
    B__law_jobs_2)
def B__law_jobs_4 : TSp :=
  (sSeq (sIf (tAnd (tCmpT .Gt (tNm 4) (tK (.int 0))) (tCmpT .Eq (tCall φ__law_draw [true, false] [] (tACons (tNm 0) (tAOne (tK (.int 6))))) (tK (.int 0)))) B__law_jobs_3 sNil)
    (sExp (tMu 3 fApp (tAOne (tTup (tACons (tCall φ__law_name [true, false] [] (tACons (tNm 0) (tAOne (tNm 4)))) (tACons (tNm 5) (tACons (tNm 6) (tAOne (tNm 7))))))))))
def B__law_jobs_5 : TSp :=
  (sSeq (sIf (tAnd (tCmpT .Gt (tNm 4) (tK (.int 0))) (tCmpT .Eq (tCall φ__law_draw [true, false] [] (tACons (tNm 0) (tAOne (tK (.int 4))))) (tK (.int 0)))) B__law_jobs_1 sNil)
    B__law_jobs_4)
def B__law_jobs_6 : TSp :=
  (sSeq (sIf (tCmpT .Eq (tCall φ__law_draw [true, false] [] (tACons (tNm 0) (tAOne (tK (.int 5))))) (tK (.int 0))) (sSet 7 (tBin (opB .Add) (tK (.int 1)) (tCall φ__law_draw [true, false] [] (tACons (tNm 0) (tAOne (tK (.int 10000))))))) sNil)
    B__law_jobs_5)
def B__law_jobs_7 : TSp :=
  (sSeq (sSet 7 (tBin (opB .Add) (tK (.int 1)) (tCall φ__law_draw [true, false] [] (tACons (tNm 0) (tAOne (tK (.int 24)))))))
    B__law_jobs_6)
def B__law_jobs_8 : TSp :=
  (sSeq (sAsg (.tp [.nm 5, .nm 6]) (tCall φ__law_window [true, false] [] (tACons (tNm 0) (tAOne (tNm 2)))))
    B__law_jobs_7)
def B__law_jobs_9 : TSp :=
  (sSeq (sFor (iRng1 (tAOne (tCall φ__law_draw [true, false] [] (tACons (tNm 0) (tAOne (tBin (opB .Add) (tNm 1) (tK (.int 1)))))))) (.nm 4) B__law_jobs_8)
    (sRet (tCb cTuple (tAOne (tNm 3)))))
def B__law_jobs_10 : TSp :=
  (sSeq (sSet 3 (tLst tANil))
    B__law_jobs_9)
def T__law_jobs : TSp :=
  (sSeq (sSet 2 (tCmp .Eq (tCall φ__law_draw [true, false] [] (tACons (tNm 0) (tAOne (tK (.int 6))))) (tK (.int 0))))
    B__law_jobs_10)
def φ__law_jobs : Fn := fun cs R0 _ => ∃ (n m : Nat) (p : Pool), cs = [Wl p.d, Fz (.int (m : Nat))] ∧ m ≤ 20 ∧ p.Ok (n + 300) ∧ ∀ (js : List Job) (p' : Pool), JobsOk js → js.length ≤ m → p'.Ok n → R0 (Fz (.tup (js.map jbD))) [Wl p'.d, .no]
theorem JobsOk.snoc {js : List Job} {j : Job} {k : Nat} (h : JobsOk js) (hk : js.length = k) (k20 : k < 20) (hj : JobOk k j) : JobsOk (js ++ [j]) := by
  refine ⟨by rw [List.length_append]; simp; omega, fun i x e => ?_⟩
  rw [List.getElem?_append] at e
  by_cases hi : i < js.length
  · rw [if_pos hi] at e; exact h.2 i x e
  · rw [if_neg hi] at e
    have hl := (List.getElem?_eq_some_iff.mp e).1
    have h1 : i - js.length < 1 := by simpa using hl
    have : i = k := by omega
    subst this
    rw [hk, Nat.sub_self] at e
    simp at e; subst e; exact hj
section
variable {EE : Ep} {K : En → Prop} {n k : Nat} {m : Int} {wd : Bool} {js : List Job} {c d w : Int} {c8 : Ct} {p : Pool}
abbrev jobsE (p : Pool) (m : Int) (wd : Bool) (js : List Job) (k : Nat) (c d w : Int) (c8 : Ct) : En := [Wl p.d, Fz (.int m), Fz (.bl wd), Wl (js.map jbD), Fz (.int (k : Nat)), Fz (.int c), Fz (.int d), Fz (.int w), c8]
theorem jobs_app (hjs : JobsOk js) (hl : js.length = k) (k20 : k < 20) (c0 : 0 ≤ c) (cd : c < d) (dl : d ≤ 10000) (w1 : 1 ≤ w) (wl : w ≤ 10000) (hp : p.Ok (n + 2)) (hK : ∀ (p' : Pool) (j : Job), JobsOk (js ++ [j]) → p'.Ok n → K (jobsE p' m wd (js ++ [j]) k c d w c8)) :
    (sExp (tMu 3 fApp (tAOne (tTup (tACons (tCall φ__law_name [true, false] [] (tACons (tNm 0) (tAOne (tNm 4)))) (tACons (tNm 5) (tACons (tNm 6) (tAOne (tNm 7))))))))) (jobsE p m wd js k c d w c8) (EE.lp K) := by
  unfold jobsE
  walk_at "pm"
  refine ⟨n, k, p, rfl, k20, hp, fun s p' hs hp' => ?_⟩
  walk_at "pm"
  refine ⟨Nat.lt_of_lt_of_le (show (js.map jbD).length < 100 by rw [List.length_map]; omega) (line_small (by omega)), ?_⟩
  have := hK p' ⟨s, c, d, w⟩ (hjs.snoc hl k20 ⟨hs, c0, cd, dl, w1, wl⟩) hp'
  unfold jobsE at this
  rw [List.map_append] at this
  exact this
theorem jobs_at {i : Int} (hjs : JobsOk js) (h0 : 0 ≤ i) (h1 : i < (js.length : Nat)) : ∃ j : Job, atI (js.map jbD) i = some (jbD j) ∧ 0 ≤ j.c ∧ j.c < j.d ∧ j.d ≤ 10000 ∧ 1 ≤ j.w ∧ j.w ≤ 10000 := by
  have e : js[i.toNat]? = some js[i.toNat] := List.getElem?_eq_getElem (by omega)
  have q := hjs.2 _ _ e
  refine ⟨_, ?_, q.c0, q.cd, q.dl, q.w1, q.wl⟩
  have := atI_map (f := jbD) e
  rwa [show ((i.toNat : Nat) : Int) = i by omega] at this
theorem jobs4 (hjs : JobsOk js) (hl : js.length = k) (k20 : k < 20) (c0 : 0 ≤ c) (cd : c < d) (dl : d ≤ 10000) (w1 : 1 ≤ w) (wl : w ≤ 10000) (hp : p.Ok (n + 5)) (hK : ∀ (p' : Pool) (j : Job) (c d : Int) (c8 : Ct), JobsOk (js ++ [j]) → p'.Ok n → K (jobsE p' m wd (js ++ [j]) k c d w c8)) : B__law_jobs_4 (jobsE p m wd js k c d w c8) (EE.lp K) := by
  have app : ∀ (c d : Int) (c8 : Ct) (p : Pool), 0 ≤ c → c < d → d ≤ 10000 → p.Ok (n + 2) → (sExp (tMu 3 fApp (tAOne (tTup (tACons (tCall φ__law_name [true, false] [] (tACons (tNm 0) (tAOne (tNm 4)))) (tACons (tNm 5) (tACons (tNm 6) (tAOne (tNm 7))))))))) (jobsE p m wd js k c d w c8) (EE.lp K) := fun c d c8 p c0 cd dl hp => jobs_app hjs hl k20 c0 cd dl w1 wl hp fun p' j h1 h2 => hK p' j c d c8 h1 h2
  unfold jobsE at app ⊢
  unfold B__law_jobs_4
  walk_at "pm"
  by_cases hk : (0 : Int) < (k : Int)
  · rw [if_pos hk]
    refine draw_ok (n := n + 4) hp (by decide) (by decide) fun z p1 z1 z2 hp1 => ?_
    walk_at "pm"
    by_cases hz : z = 0
    · rw [if_pos hz]
      unfold B__law_jobs_3
      walk_at "pm"
      refine draw_ok (n := n + 3) hp1 (by omega) ((Bs.small (by omega) (by omega)).mono (by omega)) fun i p2 i1 i2 hp2 => ?_
      walk_at "pm"
      obtain ⟨j, ej, j1, j2, j3, j4, j5⟩ := jobs_at hjs i1 (by omega)
      rw [ej]
      unfold B__law_jobs_2 jbD
      walk_at "pm"
      by_cases hd : j.d < 9990
      · rw [if_pos hd]
        refine draw_ok (n := n + 2) hp2 (by decide) (by decide) fun y p3 y1 y2 hp3 => ?_
        refine Eq.mp ?_ (app j.d (j.d + 1 + y) (Fz (jbD j)) p3 (by omega) (by omega) (by omega) hp3)
        unfold jbD
        walk_at "pm"
      · rw [if_neg hd]
        refine Eq.mp ?_ (app c d (Fz (jbD j)) p2 c0 cd dl (hp2.mono (by omega)))
        unfold jbD
        walk_at "pm"
    · rw [if_neg hz]
      refine Eq.mp ?_ (app c d c8 p1 c0 cd dl (hp1.mono (by omega)))
      walk_at "pm"
  · rw [if_neg hk]
    refine Eq.mp ?_ (app c d c8 p c0 cd dl (hp.mono (by omega)))
    walk_at "pm"
theorem jobs5 (hjs : JobsOk js) (hl : js.length = k) (k20 : k < 20) (c0 : 0 ≤ c) (cd : c < d) (dl : d ≤ 10000) (w1 : 1 ≤ w) (wl : w ≤ 10000) (hp : p.Ok (n + 7)) (hK : ∀ (p' : Pool) (j : Job) (c d : Int) (c8 : Ct), JobsOk (js ++ [j]) → p'.Ok n → K (jobsE p' m wd (js ++ [j]) k c d w c8)) : B__law_jobs_5 (jobsE p m wd js k c d w c8) (EE.lp K) := by
  have app : ∀ (c d : Int) (c8 : Ct) (p : Pool), 0 ≤ c → c < d → d ≤ 10000 → p.Ok (n + 5) → B__law_jobs_4 (jobsE p m wd js k c d w c8) (EE.lp K) := fun c d c8 p c0 cd dl hp => jobs4 hjs hl k20 c0 cd dl w1 wl hp hK
  unfold jobsE at app ⊢
  unfold B__law_jobs_5
  walk_at "pm"
  by_cases hk : (0 : Int) < (k : Int)
  · rw [if_pos hk]
    refine draw_ok (n := n + 6) hp (by decide) (by decide) fun z p1 z1 z2 hp1 => ?_
    walk_at "pm"
    by_cases hz : z = 0
    · rw [if_pos hz]
      unfold B__law_jobs_1
      walk_at "pm"
      refine draw_ok (n := n + 5) hp1 (by omega) ((Bs.small (by omega) (by omega)).mono (by omega)) fun i p2 i1 i2 hp2 => ?_
      walk_at "pm"
      obtain ⟨j, ej, j1, j2, j3, j4, j5⟩ := jobs_at hjs i1 (by omega)
      rw [ej]
      unfold jbD
      walk_at "pm"
      exact app j.c j.d _ p2 j1 j2 j3 hp2
    · rw [if_neg hz]
      exact app c d c8 p1 c0 cd dl (hp1.mono (by omega))
  · rw [if_neg hk]
    exact app c d c8 p c0 cd dl (hp.mono (by omega))
end
theorem sp__law_jobs (cs : List Ct) (R0 : Ct → List Ct → Prop) (E0 : Exn → List Ct → Prop) : φ__law_jobs cs R0 E0 → fnOf 7 [0] T__law_jobs cs R0 E0 := by
  rintro ⟨n, m, p0, rfl, hm, hp, h⟩
  rw [fnOf_eq]
  refine ⟨ow0 rfl, ?_⟩
  unfold T__law_jobs
  walk_at "pm"
  refine draw_ok (n := n + 299) hp (by decide) (by decide) fun z p1 z1 z2 hp1 => ?_
  walk_at "pm"
  unfold B__law_jobs_10 B__law_jobs_9
  walk_at "pm"
  refine draw_ok (n := n + 298) hp1 (by omega) ((Bs.small (by omega) (by omega)).mono (by omega)) fun q p2 q1 q2 hp2 => ?_
  walk_at "pm"
  refine ⟨by omega, ?_⟩
  generalize decide (z = 0) = wd
  refine for_rng (fun k ρ => ∃ (p : Pool) (js : List Job) (c4 c5 c6 c7 c8 : Ct), ρ = [Wl p.d, Fz (.int (m : Nat)), Fz (.bl wd), Wl (js.map jbD), c4, c5, c6, c7, c8] ∧ JobsOk js ∧ js.length = k ∧ p.Ok (n + 298 - 14 * k)) ⟨p2, [], _, _, _, _, _, rfl, ⟨by simp, fun k j e => by simp at e⟩, rfl, hp2⟩ ?_ ?_
  · rintro k ρ K hk ⟨p, js, c4, c5, c6, c7, c8, rfl, hjs, hl, hp⟩ hK
    have hk20 : k < 20 := by omega
    unfold B__law_jobs_8
    walk_at "pm"
    refine ⟨n + 298 - 14 * k - 2, wd, p, rfl, hp.mono (by omega), fun c d p3 c0 cd dl hp3 => ?_⟩
    unfold B__law_jobs_7
    walk_at "pm"
    refine draw_ok (n := n + 298 - 14 * k - 3) (hp3.mono (by omega)) (by decide) (by decide) fun w p4 w1 w2 hp4 => ?_
    rw [Int.zero_add]
    unfold B__law_jobs_6
    walk_at "pm"
    refine draw_ok (n := n + 298 - 14 * k - 4) (hp4.mono (by omega)) (by decide) (by decide) fun y p5 y1 y2 hp5 => ?_
    walk_at "pm"
    have nx : ∀ (w : Int) (p : Pool), 1 ≤ w → w ≤ 10000 → p.Ok (n + 298 - 14 * k - 5) → B__law_jobs_5 (jobsE p m wd js k c d w c8) (((fnE [Wl p0.d, Fz (.int (m : Nat))] R0 E0).sq (sRet (tCb cTuple (tAOne (tNm 3))))).lp K) := fun w p w1 wl hp => jobs5 (n := n + 298 - 14 * (k + 1)) hjs hl hk20 c0 cd dl w1 wl (hp.mono (by omega)) fun p' j c d c8 h1 h2 => hK _ ⟨p', js ++ [j], _, _, _, _, _, rfl, h1, by simp [hl], h2⟩
    by_cases hy : y = 0
    · rw [if_pos hy]
      refine draw_ok (n := n + 298 - 14 * k - 5) (hp5.mono (by omega)) (by decide) (by decide) fun x p6 x1 x2 hp6 => ?_
      walk_at "pm"
      exact nx _ p6 (by omega) (by omega) hp6
    · rw [if_neg hy]
      exact nx _ p5 (by omega) (by omega) (hp5.mono (by omega))
  · rintro ρ ⟨p, js, c4, c5, c6, c7, c8, rfl, hjs, hl, hp⟩
    walk_at "pm"
    exact h js p hjs (by omega) (hp.mono (by omega))
def B__law_points_1 : TSp :=
  (sIf (tAnd (tCmpT .Gt (tBin (opB .Sub) (tIx (tNm 3) (tK (.int 2))) (tIx (tNm 3) (tK (.int 1)))) (tK (.int 1))) (tCmpT .Eq (tCall φ__law_draw [true, false] [] (tACons (tNm 0) (tAOne (tK (.int 2))))) (tK (.int 0)))) (sExp (tMu 2 fApp (tAOne (tBin (opB .Add) (tBin (opB .Add) (tIx (tNm 3) (tK (.int 1))) (tK (.int 1))) (tCall φ__law_draw [true, false] [] (tACons (tNm 0) (tAOne (tBin (opB .Sub) (tBin (opB .Sub) (tIx (tNm 3) (tK (.int 2))) (tIx (tNm 3) (tK (.int 1)))) (tK (.int 1)))))))))) sNil)
def B__law_points_2 : TSp :=
  (sSeq (sExp (tMu 2 fExt (tAOne (tLst (tACons (tIx (tNm 3) (tK (.int 1))) (tAOne (tIx (tNm 3) (tK (.int 2)))))))))
    B__law_points_1)
def B__law_points_3 : TSp :=
  (sSeq (sFor (iAny (tNm 1)) (.nm 3) B__law_points_2)
    (sRet (tCb cSort (tAOne (tLc' (iRng1 (tAOne (tCb (cD1 fLen) (tAOne (tNm 2))))) (.nm 4) (tCmpT .NotIn (tIx (tNm 2) (tNmC 4)) (tSlice (tNm 2) tONone (tOSome (tNmC 4)))) (tIx (tNm 2) (tNmC 4)) [4])))))
def T__law_points : TSp :=
  (sSeq (sSet 2 (tLst tANil))
    B__law_points_3)
/-! the points: comings, due times and drawn times, each once, in order -/
structure PtsOk (js : List Job) (P : List Int) : Prop where
  srt : P.Pairwise (· < ·)
  rng : ∀ x ∈ P, 0 ≤ x ∧ x ≤ 10000
  job : ∀ j ∈ js, j.c ∈ P ∧ j.d ∈ P
  len : P.length ≤ 3 * js.length
  some_ : ∀ x ∈ P, ∃ j ∈ js, j.c ≤ x ∧ x ≤ j.d
def nubI : List Int → List Int → List Int
  | _, [] => []
  | seen, x :: l => if x ∈ seen then nubI (seen ++ [x]) l else x :: nubI (seen ++ [x]) l
theorem nubI_mem : ∀ {l seen : List Int} {x : Int}, x ∈ nubI seen l ↔ x ∈ l ∧ x ∉ seen
  | [], _, _ => by simp [nubI]
  | a :: l, seen, x => by
    unfold nubI
    by_cases h : a ∈ seen
    · rw [if_pos h, nubI_mem, List.mem_append, List.mem_singleton, List.mem_cons]
      constructor
      · rintro ⟨h1, h2⟩; exact ⟨.inr h1, fun z => h2 (.inl z)⟩
      · rintro ⟨h1, h2⟩
        rcases h1 with rfl | h1
        · exact absurd h h2
        · refine ⟨h1, ?_⟩
          rintro (z | rfl)
          · exact h2 z
          · exact h2 h
    · rw [if_neg h, List.mem_cons, nubI_mem, List.mem_append, List.mem_singleton, List.mem_cons]
      constructor
      · rintro (rfl | ⟨h1, h2⟩)
        · exact ⟨.inl rfl, h⟩
        · exact ⟨.inr h1, fun z => h2 (.inl z)⟩
      · rintro ⟨h1, h2⟩
        by_cases hx : x = a
        · exact .inl hx
        · rcases h1 with h1 | h1
          · exact absurd h1 hx
          · refine .inr ⟨h1, ?_⟩
            rintro (z | z)
            · exact h2 z
            · exact hx z
theorem nubI_nodup : ∀ {l seen : List Int}, (nubI seen l).Nodup
  | [], _ => by simp [nubI]
  | a :: l, seen => by
    unfold nubI
    by_cases h : a ∈ seen
    · rw [if_pos h]; exact nubI_nodup
    · rw [if_neg h, List.nodup_cons]
      exact ⟨fun z => (nubI_mem.mp z).2 (by simp), nubI_nodup⟩
theorem nubI_len : ∀ {l seen : List Int}, (nubI seen l).length ≤ l.length
  | [], _ => Nat.le_refl _
  | a :: l, seen => by
    unfold nubI
    have := nubI_len (l := l) (seen := seen ++ [a])
    split <;> simp <;> omega
theorem srt_lt {l : List Int} (h : l.Nodup) : (srt l).Pairwise (· < ·) := by
  have h1 := srt_sorted l
  have h2 : (srt l).Nodup := (srt_perm l).nodup_iff.mpr h
  exact (h1.and h2).imp fun {a b} h => by have := h.1; have := h.2; omega
theorem ints_map' {α : Type} {f : α → Int} (l : List α) : ints? (l.map fun x => D.int (f x)) = some (l.map f) := by
  have := ints_map (l.map f)
  rwa [List.map_map] at this
theorem any_int {x : Int} : ∀ l : List Int, ((l.map D.int).any fun z => eqD z (.int x)) = decide (x ∈ l)
  | [] => by simp
  | a :: l => by
    rw [List.map_cons, List.any_cons, any_int l]
    have e : eqD (.int a) (.int x) = (a == x) := by unfold eqD D.py; rfl
    rw [e]
    by_cases h : a = x
    · subst h; simp
    · have h' : ¬ x = a := fun z => h z.symm
      simp [h, h']
def φ__law_points : Fn := fun cs R0 _ => ∃ (n : Nat) (p : Pool) (js : List Job), cs = [Wl p.d, Fz (.tup (js.map jbD))] ∧ JobsOk js ∧ p.Ok (n + 40) ∧ ∀ (P : List Int) (p' : Pool), PtsOk js P → p'.Ok n → R0 (Wl (P.map .int)) [Wl p'.d, .no]
theorem shp_ints {l : List Int} : shp (.lst (l.map D.int)) := (Shn.lst (n := 0) fun x hx => by
  obtain ⟨q, _, rfl⟩ := List.mem_map.mp hx
  exact Shn.int).shp (by omega)
theorem sp__law_points (cs : List Ct) (R0 : Ct → List Ct → Prop) (E0 : Exn → List Ct → Prop) : φ__law_points cs R0 E0 → fnOf 3 [0] T__law_points cs R0 E0 := by
  rintro ⟨n, p0, js, rfl, hjs, hp, h⟩
  rw [fnOf_eq]
  refine ⟨ow0 rfl, ?_⟩
  have h20 := hjs.1
  unfold T__law_points B__law_points_3
  walk_at "pm"
  refine for_ind (fun rest ρ => ∃ (p : Pool) (pre : List Job) (Q : List Int) (c3 : Ct), ρ = [Wl p.d, Fz (.tup (js.map jbD)), Wl (Q.map .int), c3, .no] ∧ js = pre ++ rest ∧ (∀ j ∈ pre, j.c ∈ Q ∧ j.d ∈ Q) ∧ (∀ x ∈ Q, ∃ j ∈ js, j.c ≤ x ∧ x ≤ j.d) ∧ Q.length ≤ 3 * pre.length ∧ p.Ok (n + 40 - 2 * pre.length)) ?_ ?_ js _ ⟨p0, [], [], _, rfl, rfl, by simp, by simp, by simp, hp⟩
  · rintro j rest ρ K ⟨p, pre, Q, c3, rfl, hpre, hQ1, hQ2, hQ3, hp⟩ hK
    have hj : j ∈ js := by rw [hpre]; simp
    obtain ⟨k, hk, ek⟩ := List.getElem_of_mem hj
    have oj := hjs.2 k j (by rw [List.getElem?_eq_getElem hk, ek])
    have hlen : pre.length < 20 := by
      have := congrArg List.length hpre
      rw [List.length_append, List.length_cons] at this; omega
    unfold B__law_points_2 B__law_points_1 jbD
    walk_at "pm"
    have eQ : Q.map D.int ++ [D.int j.c, D.int j.d] = (Q ++ [j.c, j.d]).map D.int := by rw [List.map_append]; rfl
    rw [eQ]
    refine ⟨line_small (by rw [List.length_map]; simp; omega), ?_⟩
    have oc := oj.cd
    have nx : ∀ (p : Pool) (Q' : List Int), (∀ x ∈ Q', j.c ≤ x ∧ x ≤ j.d) → Q'.length ≤ 1 → p.Ok (n + 40 - 2 * (pre.length + 1)) → K [Wl p.d, Fz (.tup (js.map fun j => .tup [.str j.nm, .int j.c, .int j.d, .int j.w])), Wl ((Q ++ [j.c, j.d] ++ Q').map .int), Fz (.tup [.str j.nm, .int j.c, .int j.d, .int j.w]), .no] := fun p Q' h1 h2 hp => by
      refine hK _ ⟨p, pre ++ [j], _, _, rfl, by rw [hpre, List.append_assoc]; rfl, fun x hx => ?_, fun x hx => ?_, ?_, by rw [List.length_append]; exact hp⟩
      · rcases List.mem_append.mp hx with hx | hx
        · have := hQ1 x hx
          simp [this.1, this.2]
        · rw [List.mem_singleton] at hx; subst hx; simp
      · rcases List.mem_append.mp hx with hx | hx
        · rcases List.mem_append.mp hx with hx | hx
          · exact hQ2 x hx
          · refine ⟨j, hj, ?_⟩
            simp only [List.mem_cons, List.not_mem_nil, or_false] at hx
            rcases hx with rfl | rfl <;> omega
        · exact ⟨j, hj, h1 x hx⟩
      · simp only [List.length_append, List.length_cons, List.length_nil]; omega
    by_cases h1 : 1 < j.d - j.c
    · rw [if_pos h1]
      refine draw_ok (n := n + 40 - 2 * pre.length - 1) (hp.mono (by omega)) (by decide) (by decide) fun z p1 z1 z2 hp1 => ?_
      walk_at "pm"
      by_cases hz : z = 0
      · rw [if_pos hz]
        have ocd := oj.c0
        have odl := oj.dl
        refine draw_ok (n := n + 40 - 2 * pre.length - 2) (hp1.mono (by omega)) (by omega) ((Bs.small (by omega) (by omega)).mono (by omega)) fun y p2 y1 y2 hp2 => ?_
        walk_at "pm"
        refine ⟨Nat.lt_of_lt_of_le (show ((Q ++ [j.c, j.d]).map D.int).length < 100 by rw [List.length_map]; simp; omega) (line_small (by omega)), ?_⟩
        have := nx p2 [j.c + 1 + y] (fun x hx => by rw [List.mem_singleton] at hx; omega) (by simp) (hp2.mono (by omega))
        rw [List.map_append] at this
        exact this
      · rw [if_neg hz]
        have := nx p1 [] (by simp) (by simp) (hp1.mono (by omega))
        rw [List.append_nil] at this
        exact this
    · rw [if_neg h1]
      have := nx p [] (by simp) (by simp) (hp.mono (by omega))
      rw [List.append_nil] at this
      exact this
  · rintro ρ ⟨p, pre, Q, c3, rfl, hpre, hQ1, hQ2, hQ3, hp⟩
    rw [List.append_nil] at hpre
    subst hpre
    walk_at "pm"
    rw [List.length_map]
    refine ⟨by omega, ?_⟩
    rw [Int.toNat_natCast]
    refine lc_rng (fun k acc ρ => ∃ A : List Int, acc = A.map .int ∧ A ++ nubI (Q.take k) (Q.drop k) = nubI [] Q ∧ ρ = [Wl p.d, Fz (.tup (js.map jbD)), Wl (Q.map .int), c3, .no] ∧ A.length ≤ k) ⟨[], rfl, rfl, rfl, by simp⟩ ?_ ?_
    · rintro k acc ρ K hk ⟨A, rfl, hA, rfl, hAl⟩ hK
      walk_at "pm"
      have ek : Q[k]? = some Q[k] := List.getElem?_eq_getElem hk
      rw [List.drop_eq_getElem_cons hk] at hA
      have et : Q.take (k + 1) = Q.take k ++ [Q[k]] := by rw [List.take_succ, ek]; rfl
      generalize Q[k] = x at ek hA et
      rw [Int.zero_add, atI_map ek]
      walk_at "pm"
      rw [cut_take, ← List.map_take]
      refine ⟨shp_ints, ?_⟩
      rw [any_int]
      have hA' : A ++ (if x ∈ Q.take k then nubI (Q.take k ++ [x]) (Q.drop (k + 1)) else x :: nubI (Q.take k ++ [x]) (Q.drop (k + 1))) = nubI [] Q := hA
      by_cases hx : x ∈ Q.take k
      · rw [if_neg (by simpa using hx)]
        rw [if_pos hx] at hA'
        exact hK _ _ ⟨A, rfl, by rw [et]; exact hA', rfl, by omega⟩
      · rw [if_pos (by simpa using hx)]
        rw [if_neg hx] at hA'
        refine ⟨Nat.lt_of_lt_of_le (show (A.map D.int).length < 100 by rw [List.length_map]; omega) (line_small (by omega)), ?_⟩
        refine hK _ _ ⟨A ++ [x], by rw [List.map_append]; rfl, by rw [et, List.append_assoc]; exact hA', rfl, by rw [List.length_append]; simp; omega⟩
    · rintro acc ρ ⟨A, rfl, hA, rfl, hAl⟩
      walk_at "pm"
      rw [List.drop_length] at hA
      have hA : A = nubI [] Q := by rw [← hA]; simp [nubI]
      rw [ints_map]
      walk_at "pm"
      refine h (srt A) p ⟨?_, fun x hx => ?_, fun j hj => ?_, ?_, fun x hx => ?_⟩ (hp.mono (by omega))
      · rw [hA]; exact srt_lt nubI_nodup
      · rw [hA] at hx
        obtain ⟨j, hj, h1, h2⟩ := hQ2 x (nubI_mem.mp ((srt_perm _).mem_iff.mp hx)).1
        obtain ⟨k, hk, ek⟩ := List.getElem_of_mem hj
        have oj := hjs.2 k j (by rw [List.getElem?_eq_getElem hk, ek])
        have := oj.c0
        have := oj.dl
        omega
      · have := hQ1 j hj
        rw [hA]
        exact ⟨(srt_perm _).mem_iff.mpr (nubI_mem.mpr ⟨this.1, by simp⟩), (srt_perm _).mem_iff.mpr (nubI_mem.mpr ⟨this.2, by simp⟩)⟩
      · rw [(srt_perm A).length_eq, hA]
        have := nubI_len (l := Q) (seen := [])
        omega
      · rw [hA] at hx
        exact hQ2 x (nubI_mem.mp ((srt_perm _).mem_iff.mp hx)).1
end Pm

namespace Pm
open PySem PySem.Spec PyProof.Rows L2
/-! ## free time: lists of intervals of whole numbers -/
abbrev Iv := Int × Int
def ivD (p : Iv) : D := .tup [.int p.1, .int p.2]
def clp (b e : Int) (p : Iv) : Iv := (max p.1 b, min p.2 e)
def fp (fr : List Iv) (b e : Int) : List Iv := (fr.map (clp b e)).filter fun p => decide (p.1 < p.2)
def lastE (fr : List Iv) : Int := (fr.getLastD (0, 0)).2
def ta (fr : List Iv) (b e : Int) : List Iv := fp fr 0 b ++ fp fr e (lastE fr)
def ln (fr : List Iv) (a b : Int) : Int := ((fp fr a b).map fun p => p.2 - p.1).sum
/-- the cell [t, t + 1) is free -/
def inF (fr : List Iv) (t : Int) : Prop := ∃ p ∈ fr, p.1 ≤ t ∧ t < p.2
/-- in order, apart, none empty, from 0 on -/
structure FrOk (fr : List Iv) : Prop where
  pos : ∀ p ∈ fr, 0 ≤ p.1 ∧ p.1 < p.2
  ord : fr.Pairwise fun p q => p.2 ≤ q.1
theorem mem_fp {fr : List Iv} {b e : Int} {p : Iv} : p ∈ fp fr b e ↔ ∃ q ∈ fr, p = clp b e q ∧ p.1 < p.2 := by
  unfold fp
  simp only [List.mem_filter, List.mem_map, decide_eq_true_eq]
  constructor
  · rintro ⟨⟨q, h1, h2⟩, h3⟩; exact ⟨q, h1, h2.symm, h3⟩
  · rintro ⟨q, h1, h2, h3⟩; exact ⟨⟨q, h1, h2.symm⟩, h3⟩
theorem fp_nil {b e : Int} : fp [] b e = [] := rfl
theorem fp_app {x y : List Iv} {b e : Int} : fp (x ++ y) b e = fp x b e ++ fp y b e := by unfold fp; rw [List.map_append, List.filter_append]
theorem fp_one {p : Iv} {b e : Int} : fp [p] b e = if max p.1 b < min p.2 e then [(max p.1 b, min p.2 e)] else [] := by
  unfold fp clp
  simp only [List.map_cons, List.map_nil, List.filter_cons, List.filter_nil, decide_eq_true_eq]
theorem fp_cons {p : Iv} {r : List Iv} {b e : Int} : fp (p :: r) b e = fp [p] b e ++ fp r b e := by rw [← fp_app]; rfl
theorem fp_len {fr : List Iv} {b e : Int} : (fp fr b e).length ≤ fr.length := by
  unfold fp
  exact Nat.le_trans (List.length_filter_le _ _) (by simp)
theorem inF_fp {fr : List Iv} {b e t : Int} : inF (fp fr b e) t ↔ inF fr t ∧ b ≤ t ∧ t < e := by
  unfold inF
  constructor
  · rintro ⟨p, hp, h1, h2⟩
    obtain ⟨q, hq, rfl, h3⟩ := mem_fp.mp hp
    unfold clp at h1 h2
    simp only at h1 h2
    exact ⟨⟨q, hq, by omega, by omega⟩, by omega, by omega⟩
  · rintro ⟨⟨q, hq, h1, h2⟩, h3, h4⟩
    refine ⟨clp b e q, mem_fp.mpr ⟨q, hq, rfl, ?_⟩, ?_, ?_⟩ <;> unfold clp <;> simp only <;> omega
theorem FrOk.fp {fr : List Iv} (h : FrOk fr) {b e : Int} : FrOk (fp fr b e) := by
  refine ⟨fun p hp => ?_, ?_⟩
  · obtain ⟨q, hq, rfl, h3⟩ := mem_fp.mp hp
    have := (h.pos q hq).1
    refine ⟨?_, h3⟩
    unfold clp
    simp only
    omega
  · unfold Pm.fp
    refine List.Pairwise.filter _ ?_
    rw [List.pairwise_map]
    refine h.ord.imp ?_
    intro p q hpq
    unfold clp
    simp only
    omega
theorem lastE_le {fr : List Iv} (h : FrOk fr) : ∀ p ∈ fr, p.2 ≤ lastE fr := by
  intro p hp
  unfold lastE
  have e := List.dropLast_concat_getLast (List.ne_nil_of_mem hp)
  rw [List.getLastD_eq_getLast?, List.getLast?_eq_getLast (List.ne_nil_of_mem hp)]
  show p.2 ≤ (fr.getLast _).2
  have ho := h.ord
  rw [← e] at hp ho
  rcases List.mem_append.mp hp with hp | hp
  · rw [List.pairwise_append] at ho
    have h1 := ho.2.2 p hp _ (List.mem_singleton.mpr rfl)
    have h2 := (h.pos _ (List.getLast_mem (List.ne_nil_of_mem (by rw [← e]; exact List.mem_append_left _ hp)))).2
    omega
  · exact Int.le_of_eq (congrArg Prod.snd (List.mem_singleton.mp hp))
theorem FrOk.ta {fr : List Iv} (h : FrOk fr) {a b : Int} (hab : a ≤ b) : FrOk (ta fr a b) := by
  unfold Pm.ta
  refine ⟨fun p hp => ?_, ?_⟩
  · rcases List.mem_append.mp hp with hp | hp
    · exact h.fp.pos p hp
    · exact h.fp.pos p hp
  · rw [List.pairwise_append]
    refine ⟨h.fp.ord, h.fp.ord, fun p hp q hq => ?_⟩
    obtain ⟨p', _, rfl, h3⟩ := mem_fp.mp hp
    obtain ⟨q', _, rfl, h4⟩ := mem_fp.mp hq
    unfold clp at h3 h4 ⊢
    simp only at h3 h4 ⊢
    omega
theorem inF_ta {fr : List Iv} (h : FrOk fr) {a b t : Int} (hab : a ≤ b) : inF (ta fr a b) t ↔ inF fr t ∧ ¬ (a ≤ t ∧ t < b) := by
  unfold ta
  have e : inF (fp fr 0 a ++ fp fr b (lastE fr)) t ↔ inF (fp fr 0 a) t ∨ inF (fp fr b (lastE fr)) t := by
    unfold inF
    simp only [List.mem_append]
    constructor
    · rintro ⟨p, hp | hp, h⟩
      · exact .inl ⟨p, hp, h⟩
      · exact .inr ⟨p, hp, h⟩
    · rintro (⟨p, hp, h⟩ | ⟨p, hp, h⟩)
      · exact ⟨p, .inl hp, h⟩
      · exact ⟨p, .inr hp, h⟩
  rw [e, inF_fp, inF_fp]
  constructor
  · rintro (⟨h1, h2, h3⟩ | ⟨h1, h2, h3⟩)
    · exact ⟨h1, by omega⟩
    · exact ⟨h1, by omega⟩
  · rintro ⟨h1, h2⟩
    obtain ⟨p, hp, h3, h4⟩ := id h1
    have h5 := (h.pos p hp).1
    have h6 := lastE_le h p hp
    by_cases ht : t < a
    · exact .inl ⟨h1, by omega, ht⟩
    · exact .inr ⟨h1, by omega, by omega⟩
theorem fp_fp {fr : List Iv} {x y u v : Int} (h : FrOk fr) : fp (fp fr x y) u v = fp fr (max x u) (min y v) := by
  have key : ∀ p : Iv, p.1 < p.2 → fp (fp [p] x y) u v = fp [p] (max x u) (min y v) := by
    intro p hp
    rw [fp_one, fp_one]
    by_cases h1 : max p.1 x < min p.2 y
    · rw [if_pos h1, fp_one]
      simp only
      have e1 : max (max p.1 x) u = max p.1 (max x u) := by omega
      have e2 : min (min p.2 y) v = min p.2 (min y v) := by omega
      rw [e1, e2]
    · rw [if_neg h1, if_neg (by omega)]; rfl
  have hp := h.pos
  clear h
  induction fr with
  | nil => rfl
  | cons p r ih =>
    rw [fp_cons, fp_app, key p (hp p (by simp)).2, ih (fun q hq => hp q (by simp [hq])), ← fp_cons]
/-! ### first and last cell -/
theorem fp_head {fr : List Iv} (h : FrOk fr) {b e : Int} (hn : fp fr b e ≠ []) : inF (fp fr b e) ((fp fr b e).headD (0, 0)).1 ∧ ∀ t, inF (fp fr b e) t → ((fp fr b e).headD (0, 0)).1 ≤ t := by
  have h := h.fp (b := b) (e := e)
  generalize Pm.fp fr b e = L at *
  cases L with
  | nil => exact absurd rfl hn
  | cons p r =>
    show inF _ p.1 ∧ ∀ t, inF _ t → p.1 ≤ t
    refine ⟨⟨p, by simp, Int.le_refl _, (h.pos p (by simp)).2⟩, ?_⟩
    rintro t ⟨q, hq, h1, h2⟩
    rcases List.mem_cons.mp hq with rfl | hq
    · exact h1
    · have := (List.pairwise_cons.mp h.ord).1 q hq
      have := (h.pos p (by simp)).2
      omega
theorem fp_last {fr : List Iv} (h : FrOk fr) {b e : Int} (hn : fp fr b e ≠ []) : inF (fp fr b e) (((fp fr b e).getLastD (0, 0)).2 - 1) ∧ ∀ t, inF (fp fr b e) t → t < ((fp fr b e).getLastD (0, 0)).2 := by
  have h := h.fp (b := b) (e := e)
  generalize Pm.fp fr b e = L at *
  have hl := lastE_le h
  unfold lastE at hl
  have hm : L.getLastD (0, 0) ∈ L := by
    rw [List.getLastD_eq_getLast?, List.getLast?_eq_getLast hn]
    exact List.getLast_mem hn
  refine ⟨⟨_, hm, ?_, ?_⟩, ?_⟩
  · have := (h.pos _ hm).2; omega
  · omega
  · rintro t ⟨q, hq, h1, h2⟩
    have := hl q hq; omega
theorem fp_ne {fr : List Iv} {b e : Int} : fp fr b e ≠ [] ↔ ∃ t, inF fr t ∧ b ≤ t ∧ t < e := by
  constructor
  · intro h
    cases hL : fp fr b e with
    | nil => exact absurd hL h
    | cons p r =>
      have hp : p ∈ fp fr b e := by rw [hL]; simp
      obtain ⟨q, _, rfl, h3⟩ := mem_fp.mp hp
      exact ⟨_, inF_fp.mp ⟨_, hp, Int.le_refl _, h3⟩⟩
  · rintro ⟨t, h1, h2, h3⟩ z
    obtain ⟨p, hp, _⟩ := inF_fp.mpr ⟨h1, h2, h3⟩
    rw [z] at hp; cases hp
/-! ### rows -/
structure Row where
  f : Int
  l : Int
  nm : Str
  w : Int
def rwD (r : Row) : D := .tup [.int r.f, .int r.l, .str r.nm, .int r.w]
def rowOf (fr : List Iv) (j : Job) : Row := ⟨((fp fr j.c j.d).headD (0, 0)).1, ((fp fr j.c j.d).getLastD (0, 0)).2, j.nm, j.w⟩
def ld (rs : List Row) (a b : Int) : Int := ((rs.filter fun r => decide (a ≤ r.f ∧ r.l ≤ b)).map (·.w)).sum
def inR (a b : Int) (r : Row) : Bool := decide (a ≤ r.f ∧ r.l ≤ b)
/-- some cell of the job's window is free -/
def Win (fr : List Iv) (j : Job) : Prop := ∃ t, inF fr t ∧ j.c ≤ t ∧ t < j.d
theorem rowOf_f {fr : List Iv} (h : FrOk fr) {j : Job} (hw : Win fr j) : (inF fr (rowOf fr j).f ∧ j.c ≤ (rowOf fr j).f ∧ (rowOf fr j).f < j.d) ∧ ∀ t, inF fr t → j.c ≤ t → t < j.d → (rowOf fr j).f ≤ t := by
  obtain ⟨h1, h2⟩ := fp_head h (fp_ne.mpr hw)
  exact ⟨inF_fp.mp h1, fun t a b c => h2 t (inF_fp.mpr ⟨a, b, c⟩)⟩
theorem rowOf_l {fr : List Iv} (h : FrOk fr) {j : Job} (hw : Win fr j) : (inF fr ((rowOf fr j).l - 1) ∧ j.c ≤ (rowOf fr j).l - 1 ∧ (rowOf fr j).l - 1 < j.d) ∧ ∀ t, inF fr t → j.c ≤ t → t < j.d → t < (rowOf fr j).l := by
  obtain ⟨h1, h2⟩ := fp_last h (fp_ne.mpr hw)
  exact ⟨inF_fp.mp h1, fun t a b c => h2 t (inF_fp.mpr ⟨a, b, c⟩)⟩
theorem rowOf_lt {fr : List Iv} (h : FrOk fr) {j : Job} (hw : Win fr j) : (rowOf fr j).f < (rowOf fr j).l := by
  obtain ⟨⟨h1, h2, h3⟩, _⟩ := rowOf_f h hw
  exact (rowOf_l h hw).2 _ h1 h2 h3
/-- inside of a .. b: all free cells of the window lie there -/
theorem inR_iff {fr : List Iv} (h : FrOk fr) {j : Job} (hw : Win fr j) {a b : Int} : inR a b (rowOf fr j) = true ↔ ∀ t, inF fr t → j.c ≤ t → t < j.d → a ≤ t ∧ t < b := by
  unfold inR
  rw [decide_eq_true_eq]
  obtain ⟨⟨f1, f2, f3⟩, f4⟩ := rowOf_f h hw
  obtain ⟨⟨l1, l2, l3⟩, l4⟩ := rowOf_l h hw
  constructor
  · rintro ⟨h1, h2⟩ t a1 a2 a3
    have := f4 t a1 a2 a3
    have := l4 t a1 a2 a3
    omega
  · intro h1
    have := h1 _ f1 f2 f3
    have := h1 _ l1 l2 l3
    omega
theorem sum_nn : ∀ {L : List Iv}, (∀ p ∈ L, p.1 < p.2) → 0 ≤ (L.map fun p => p.2 - p.1).sum
  | [], _ => by simp
  | p :: r, h => by
    rw [List.map_cons, List.sum_cons]
    have := h p (by simp)
    have := sum_nn (L := r) fun q hq => h q (by simp [hq])
    omega
theorem sum_ps : ∀ {L : List Iv}, (∀ p ∈ L, p.1 < p.2) → ∀ p ∈ L, 0 < (L.map fun p => p.2 - p.1).sum
  | p :: r, h, q, hq => by
    rw [List.map_cons, List.sum_cons]
    have := h p (by simp)
    have := sum_nn (L := r) fun q hq => h q (by simp [hq])
    omega
theorem fp_lt {fr : List Iv} {a b : Int} : ∀ p ∈ fp fr a b, p.1 < p.2 := fun p hp => by
  obtain ⟨q, _, rfl, h3⟩ := mem_fp.mp hp
  exact h3
theorem ln_nonneg {fr : List Iv} {a b : Int} : 0 ≤ ln fr a b := sum_nn fp_lt
theorem ln_pos {fr : List Iv} {a b t : Int} (h : inF fr t) (h1 : a ≤ t) (h2 : t < b) : 0 < ln fr a b := by
  obtain ⟨p, hp, h3, h4⟩ := inF_fp.mpr ⟨h, h1, h2⟩
  exact sum_ps fp_lt p hp
/-! ### the greatest density -/
def okP (rs : List Row) (a b : Int) : Prop := 0 < ld rs a b
def geP (rs : List Row) (fr : List Iv) (a b a' b' : Int) : Prop := ld rs a' b' * ln fr a b < ld rs a b * ln fr a' b' ∨ (ld rs a' b' * ln fr a b = ld rs a b * ln fr a' b' ∧ (a < a' ∨ (a = a' ∧ b' ≤ b)))
/-- the best among the pairs Pr -/
def BestOf (rs : List Row) (fr : List Iv) (Pr : Int → Int → Prop) : Option (Int × Int × Int × Int) → Prop
  | none => ∀ a b, Pr a b → ¬ okP rs a b
  | some (L, N, a, b) => Pr a b ∧ okP rs a b ∧ L = ld rs a b ∧ N = ln fr a b ∧ ∀ a' b', Pr a' b' → okP rs a' b' → geP rs fr a b a' b'
theorem ld_pos_ex {rs : List Row} {a b : Int} (h : okP rs a b) : ∃ r ∈ rs, a ≤ r.f ∧ r.l ≤ b := by
  unfold okP ld at h
  cases e : rs.filter (fun r => decide (a ≤ r.f ∧ r.l ≤ b)) with
  | nil => rw [e] at h; simp at h
  | cons r l =>
    have : r ∈ rs.filter (fun r => decide (a ≤ r.f ∧ r.l ≤ b)) := by rw [e]; simp
    rw [List.mem_filter] at this
    exact ⟨r, this.1, of_decide_eq_true this.2⟩
def rowsOf (fr : List Iv) (js : List Job) : List Row := js.map (rowOf fr)
structure RsOk (fr : List Iv) (js : List Job) : Prop where
  fo : FrOk fr
  win : ∀ j ∈ js, Win fr j
  pos : ∀ j ∈ js, 0 < j.w
theorem RsOk.ln_pos {fr : List Iv} {js : List Job} (h : RsOk fr js) {a b : Int} (ho : okP (rowsOf fr js) a b) : 0 < ln fr a b := by
  obtain ⟨r, hr, h1, h2⟩ := ld_pos_ex ho
  obtain ⟨j, hj, rfl⟩ := List.mem_map.mp hr
  obtain ⟨⟨f1, f2, f3⟩, _⟩ := rowOf_f h.fo (h.win j hj)
  have := rowOf_lt h.fo (h.win j hj)
  exact Pm.ln_pos f1 h1 (by omega)
/-- cross multiplication -/
theorem geP_trans {rs : List Row} {fr : List Iv} {a b a' b' a'' b'' : Int} (n1 : 0 < ln fr a b) (n2 : 0 < ln fr a' b') (n3 : 0 < ln fr a'' b'') (h1 : geP rs fr a b a' b') (h2 : geP rs fr a' b' a'' b'') : geP rs fr a b a'' b'' := by
  unfold geP at *
  generalize ld rs a b = L1 at *
  generalize ld rs a' b' = L2 at *
  generalize ld rs a'' b'' = L3 at *
  generalize ln fr a b = N1 at *
  generalize ln fr a' b' = N2 at *
  generalize ln fr a'' b'' = N3 at *
  -- L2 * N1 <= L1 * N2, L3 * N2 <= L2 * N3
  have m1 : L2 * N1 ≤ L1 * N2 := by rcases h1 with h | h; exact Int.le_of_lt h; exact Int.le_of_eq h.1
  have m2 : L3 * N2 ≤ L2 * N3 := by rcases h2 with h | h; exact Int.le_of_lt h; exact Int.le_of_eq h.1
  have k1 : (L2 * N1) * N3 ≤ (L1 * N2) * N3 := Int.mul_le_mul_of_nonneg_right m1 (Int.le_of_lt n3)
  have k2 : (L3 * N2) * N1 ≤ (L2 * N3) * N1 := Int.mul_le_mul_of_nonneg_right m2 (Int.le_of_lt n1)
  have e1 : (L2 * N1) * N3 = (L2 * N3) * N1 := by rw [Int.mul_assoc, Int.mul_comm N1, ← Int.mul_assoc]
  have e2 : (L3 * N2) * N1 = (L3 * N1) * N2 := by rw [Int.mul_assoc, Int.mul_comm N2, ← Int.mul_assoc]
  have e3 : (L1 * N2) * N3 = (L1 * N3) * N2 := by rw [Int.mul_assoc, Int.mul_comm N2, ← Int.mul_assoc]
  have k3 : (L3 * N1) * N2 ≤ (L1 * N3) * N2 := by omega
  have k4 : L3 * N1 ≤ L1 * N3 := Int.le_of_mul_le_mul_right k3 n2
  by_cases hlt : L3 * N1 < L1 * N3
  · exact .inl hlt
  · right
    have he : L3 * N1 = L1 * N3 := by omega
    refine ⟨he, ?_⟩
    have he2 : (L3 * N1) * N2 = (L1 * N3) * N2 := by rw [he]
    have q1 : L2 * N1 = L1 * N2 := by
      have : (L2 * N1) * N3 = (L1 * N2) * N3 := by omega
      exact Int.eq_of_mul_eq_mul_right (by omega) this
    have q2 : L3 * N2 = L2 * N3 := by
      have : (L3 * N2) * N1 = (L2 * N3) * N1 := by omega
      exact Int.eq_of_mul_eq_mul_right (by omega) this
    rcases h1 with h1 | h1
    · omega
    rcases h2 with h2 | h2
    · omega
    omega
theorem geP_refl {rs : List Row} {fr : List Iv} {a b : Int} : geP rs fr a b a b := .inr ⟨rfl, .inr ⟨rfl, Int.le_refl _⟩⟩
theorem geP_anti {rs : List Row} {fr : List Iv} {a b a' b' : Int} (h1 : geP rs fr a b a' b') (h2 : geP rs fr a' b' a b) : a = a' ∧ b = b' := by
  unfold geP at *
  rcases h1 with h1 | ⟨e1, h1⟩ <;> rcases h2 with h2 | ⟨e2, h2⟩
  · omega
  · omega
  · omega
  · omega
/-- there is one best -/
theorem best_uniq {rs : List Row} {fr : List Iv} {P Q : Int → Int → Prop} {x y : Option (Int × Int × Int × Int)} (hx : BestOf rs fr P x) (hy : BestOf rs fr Q y) (hPQ : ∀ a b, okP rs a b → (P a b ↔ Q a b)) : x = y := by
  cases x with
  | none =>
    cases y with
    | none => rfl
    | some y =>
      obtain ⟨L, N, a, b⟩ := y
      obtain ⟨h1, h2, _⟩ := hy
      exact absurd h2 (hx a b ((hPQ a b h2).mpr h1))
  | some x =>
    obtain ⟨L, N, a, b⟩ := x
    obtain ⟨h1, h2, h3, h4, h5⟩ := hx
    cases y with
    | none => exact absurd h2 (hy a b ((hPQ a b h2).mp h1))
    | some y =>
      obtain ⟨L', N', a', b'⟩ := y
      obtain ⟨g1, g2, g3, g4, g5⟩ := hy
      obtain ⟨e1, e2⟩ := geP_anti (h5 a' b' ((hPQ _ _ g2).mpr g1) g2) (g5 a b ((hPQ _ _ h2).mp h1) h2)
      subst e1 e2
      rw [h3, h4, g3, g4]
/-- the pairs that both programs walk -/
def Pairs (rs : List Row) (a b : Int) : Prop := (∃ r ∈ rs, r.f = a) ∧ ∃ r ∈ rs, r.l = b
/-! ### rounds -/
structure Rd where
  L : Int
  N : Int
  a : Int
  b : Int
  nms : List Str
  tms : List Iv
def outR (nms : List Str) (j : Job) : Bool := !decide (j.nm ∈ nms)
inductive Rnds : List Job → List Iv → List Rd → Prop
  | nil {fr : List Iv} : Rnds [] fr []
  | cons {js : List Job} {fr : List Iv} {L N a b : Int} {rs : List Rd} (hn : js ≠ []) (hb : BestOf (rowsOf fr js) fr (Pairs (rowsOf fr js)) (some (L, N, a, b)))
      (h : Rnds (js.filter (outR (((rowsOf fr js).filter (inR a b)).map (·.nm)))) (ta fr a b) rs) : Rnds js fr (⟨L, N, a, b, ((rowsOf fr js).filter (inR a b)).map (·.nm), fp fr a b⟩ :: rs)
theorem Rnds.uniq {js : List Job} {fr : List Iv} {r1 r2 : List Rd} (h1 : Rnds js fr r1) (h2 : Rnds js fr r2) : r1 = r2 := by
  induction h1 generalizing r2 with
  | nil => cases h2 with | nil => rfl | cons hn _ _ => exact absurd rfl hn
  | cons hn hb h ih =>
    cases h2 with
    | nil => exact absurd rfl hn
    | cons hn' hb' h' =>
      have e := best_uniq hb hb' (fun _ _ _ => Iff.rfl)
      cases e
      rw [ih h']
/-- a job that is kept keeps free time -/
theorem keep_win {fr : List Iv} (h : FrOk fr) {j : Job} (hw : Win fr j) {a b : Int} (hab : a ≤ b) (hn : inR a b (rowOf fr j) = false) : Win (ta fr a b) j := by
  have h1 : ¬ ∀ t, inF fr t → j.c ≤ t → t < j.d → a ≤ t ∧ t < b := fun z => by
    rw [(inR_iff h hw).mpr z] at hn; cases hn
  obtain ⟨⟨f1, f2, f3⟩, f4⟩ := rowOf_f h hw
  obtain ⟨⟨l1, l2, l3⟩, l4⟩ := rowOf_l h hw
  unfold inR at hn
  rw [decide_eq_false_iff_not] at hn
  by_cases hf : a ≤ (rowOf fr j).f
  · refine ⟨(rowOf fr j).l - 1, (inF_ta h hab).mpr ⟨l1, by omega⟩, l2, l3⟩
  · exact ⟨(rowOf fr j).f, (inF_ta h hab).mpr ⟨f1, by omega⟩, f2, f3⟩
theorem best_lt {fr : List Iv} {js : List Job} (h : RsOk fr js) {L N a b : Int} (hb : BestOf (rowsOf fr js) fr (Pairs (rowsOf fr js)) (some (L, N, a, b))) : a < b := by
  obtain ⟨_, h2, _⟩ := hb
  obtain ⟨r, hr, h3, h4⟩ := ld_pos_ex h2
  obtain ⟨j, hj, rfl⟩ := List.mem_map.mp hr
  have := rowOf_lt h.fo (h.win j hj)
  omega
theorem RsOk.next {fr : List Iv} {js : List Job} (h : RsOk fr js) {L N a b : Int} (hb : BestOf (rowsOf fr js) fr (Pairs (rowsOf fr js)) (some (L, N, a, b))) : RsOk (ta fr a b) (js.filter (outR (((rowsOf fr js).filter (inR a b)).map (·.nm)))) := by
  have hab := best_lt h hb
  refine ⟨h.fo.ta (by omega), fun j hj => ?_, fun j hj => h.pos j (List.mem_filter.mp hj).1⟩
  rw [List.mem_filter] at hj
  refine keep_win h.fo (h.win j hj.1) (by omega) ?_
  cases q : inR a b (rowOf fr j) with
  | false => rfl
  | true =>
    have h2 := hj.2
    unfold outR at h2
    have : j.nm ∈ ((rowsOf fr js).filter (inR a b)).map (·.nm) := by
      rw [List.mem_map]
      exact ⟨rowOf fr j, List.mem_filter.mpr ⟨List.mem_map.mpr ⟨j, hj.1, rfl⟩, q⟩, rfl⟩
    rw [decide_eq_true this] at h2; cases h2
/-- there is a best, as long as a job waits -/
theorem best_some {fr : List Iv} {js : List Job} (h : RsOk fr js) (hn : js ≠ []) {x : Option (Int × Int × Int × Int)} (hb : BestOf (rowsOf fr js) fr (Pairs (rowsOf fr js)) x) : ∃ L N a b, x = some (L, N, a, b) := by
  cases x with
  | some x => obtain ⟨L, N, a, b⟩ := x; exact ⟨L, N, a, b, rfl⟩
  | none =>
    obtain ⟨j, hj⟩ := List.exists_mem_of_ne_nil js hn
    have hr : rowOf fr j ∈ rowsOf fr js := List.mem_map.mpr ⟨j, hj, rfl⟩
    refine absurd ?_ (hb (rowOf fr j).f (rowOf fr j).l ⟨⟨_, hr, rfl⟩, ⟨_, hr, rfl⟩⟩)
    unfold okP ld
    have : ∀ rs : List Row, (∀ r ∈ rs, 0 < r.w) → rs ≠ [] → 0 < (rs.map (·.w)).sum := by
      intro rs
      induction rs with
      | nil => intro _ z; exact absurd rfl z
      | cons r rs ih =>
        intro hp _
        rw [List.map_cons, List.sum_cons]
        have h1 := hp r (by simp)
        cases rs with
        | nil => simp; exact h1
        | cons q rs =>
          have := ih (fun x hx => hp x (by simp [hx])) (by simp)
          omega
    refine this _ (fun r hr => ?_) (List.ne_nil_of_mem (List.mem_filter.mpr ⟨hr, by simp⟩))
    obtain ⟨j', hj', rfl⟩ := List.mem_map.mp (List.mem_filter.mp hr).1
    exact h.pos j' hj'
/-- a round takes a job -/
theorem round_less {fr : List Iv} {js : List Job} {L N a b : Int} (hb : BestOf (rowsOf fr js) fr (Pairs (rowsOf fr js)) (some (L, N, a, b))) : (js.filter (outR (((rowsOf fr js).filter (inR a b)).map (·.nm)))).length < js.length := by
  obtain ⟨_, h2, _⟩ := hb
  obtain ⟨r, hr, h3, h4⟩ := ld_pos_ex h2
  obtain ⟨j, hj, rfl⟩ := List.mem_map.mp hr
  refine List.length_filter_lt_length_iff_exists.mpr ⟨j, hj, ?_⟩
  unfold outR
  have : j.nm ∈ ((rowsOf fr js).filter (inR a b)).map (·.nm) := by
    rw [List.mem_map]
    exact ⟨rowOf fr j, List.mem_filter.mpr ⟨hr, by unfold inR; exact decide_eq_true ⟨h3, h4⟩⟩, rfl⟩
  rw [decide_eq_true this]; simp
end Pm

namespace Pm
open PySem PySem.Spec PyProof.Rows L2
/-! ### one pair more -/
section
variable {fr : List Iv} {js : List Job} {P : Int → Int → Prop} {a b : Int}
theorem best_take {best : Option (Int × Int × Int × Int)} (h : RsOk fr js) (hb : BestOf (rowsOf fr js) fr P best) (ho : okP (rowsOf fr js) a b) (hx : ∀ L N a' b', best = some (L, N, a', b') → geP (rowsOf fr js) fr a b a' b') :
    BestOf (rowsOf fr js) fr (fun x y => P x y ∨ (x = a ∧ y = b)) (some (ld (rowsOf fr js) a b, ln fr a b, a, b)) := by
  refine ⟨.inr ⟨rfl, rfl⟩, ho, rfl, rfl, fun x y hp hxy => ?_⟩
  rcases hp with hp | ⟨rfl, rfl⟩
  · cases best with
    | none => exact absurd hxy (hb x y hp)
    | some q =>
      obtain ⟨L, N, a', b'⟩ := q
      obtain ⟨b1, b2, b3, b4, b5⟩ := hb
      exact geP_trans (h.ln_pos ho) (h.ln_pos b2) (h.ln_pos hxy) (hx _ _ _ _ rfl) (b5 x y hp hxy)
  · exact geP_refl
theorem best_keep {best : Option (Int × Int × Int × Int)} (hb : BestOf (rowsOf fr js) fr P best) (hk : okP (rowsOf fr js) a b → ∃ L N a' b', best = some (L, N, a', b') ∧ geP (rowsOf fr js) fr a' b' a b) :
    BestOf (rowsOf fr js) fr (fun x y => P x y ∨ (x = a ∧ y = b)) best := by
  cases best with
  | none =>
    intro x y hp hxy
    rcases hp with hp | ⟨rfl, rfl⟩
    · exact hb x y hp hxy
    · obtain ⟨_, _, _, _, z, _⟩ := hk hxy; cases z
  | some q =>
    obtain ⟨L, N, a', b'⟩ := q
    obtain ⟨b1, b2, b3, b4, b5⟩ := hb
    refine ⟨.inl b1, b2, b3, b4, fun x y hp hxy => ?_⟩
    rcases hp with hp | ⟨rfl, rfl⟩
    · exact b5 x y hp hxy
    · obtain ⟨_, _, _, _, z, hg⟩ := hk hxy
      cases z
      exact hg
theorem BestOf.cg {rs : List Row} {Q : Int → Int → Prop} {best : Option (Int × Int × Int × Int)} (hb : BestOf rs fr P best) (h : ∀ x y, P x y ↔ Q x y) : BestOf rs fr Q best := by
  have e : P = Q := by funext x y; exact propext (h x y)
  rw [← e]; exact hb
theorem ok_lt (h : RsOk fr js) (ho : okP (rowsOf fr js) a b) : a < b := by
  obtain ⟨r, hr, h3, h4⟩ := ld_pos_ex ho
  obtain ⟨j, hj, rfl⟩ := List.mem_map.mp hr
  have := rowOf_lt h.fo (h.win j hj)
  omega
theorem ld_nn (h : RsOk fr js) : 0 ≤ ld (rowsOf fr js) a b := by
  unfold ld
  have : ∀ rs : List Row, (∀ r ∈ rs, 0 < r.w) → 0 ≤ (rs.map (·.w)).sum := by
    intro rs
    induction rs with
    | nil => intro _; simp
    | cons r rs ih =>
      intro hp
      rw [List.map_cons, List.sum_cons]
      have h1 := hp r (by simp)
      have := ih (fun x hx => hp x (by simp [hx]))
      omega
  refine this _ fun r hr => ?_
  obtain ⟨j', hj', rfl⟩ := List.mem_map.mp (List.mem_filter.mp hr).1
  exact h.pos j' hj'
end
def bstD : Option (Int × Int × Int × Int) → D
  | none => .non
  | some (L, N, a, b) => .tup [.int L, .int N, .int a, .int b]
end Pm

namespace Pm
open PySem PySem.Spec PyProof.Rows L2
/-! ### sizes -/
theorem sum_le : ∀ {L : List Iv} {x M : Int}, (∀ p ∈ L, p.1 < p.2) → L.Pairwise (fun p q => p.2 ≤ q.1) → (∀ p ∈ L, x ≤ p.1 ∧ p.2 ≤ M) → x ≤ M → (L.map fun p => p.2 - p.1).sum ≤ M - x
  | [], x, M, _, _, _, h => by simp; omega
  | p :: r, x, M, h1, h2, h3, h4 => by
    rw [List.map_cons, List.sum_cons]
    rw [List.pairwise_cons] at h2
    have a := h1 p (by simp)
    have b := h3 p (by simp)
    have := sum_le (L := r) (x := p.2) (M := M) (fun q hq => h1 q (by simp [hq])) h2.2 (fun q hq => ⟨h2.1 q hq, (h3 q (by simp [hq])).2⟩) b.2
    omega
theorem ln_le {fr : List Iv} (h : FrOk fr) {M : Int} (hM : 0 ≤ M) (hb : ∀ p ∈ fr, p.2 ≤ M) {a b : Int} : ln fr a b ≤ M := by
  unfold ln
  have := sum_le (L := fp fr a b) (x := 0) (M := M) fp_lt (h.fp.ord) (fun p hp => ⟨(h.fp.pos p hp).1, by
    obtain ⟨q, hq, rfl, _⟩ := mem_fp.mp hp
    have := hb q hq
    unfold clp; simp only; omega⟩) hM
  omega
theorem fr_bd {fr : List Iv} {M : Int} (hb : ∀ p ∈ fr, p.2 ≤ M) {a b : Int} : ∀ p ∈ ta fr a b, p.2 ≤ M := fun p hp => by
  unfold ta at hp
  rcases List.mem_append.mp hp with hp | hp
  all_goals
    obtain ⟨q, hq, rfl, _⟩ := mem_fp.mp hp
    have := hb q hq
    unfold clp; simp only; omega
theorem wsum_le : ∀ {rs : List Row} {p : Row → Bool}, (∀ r ∈ rs, 0 ≤ r.w) → ((rs.filter p).map (·.w)).sum ≤ (rs.map (·.w)).sum
  | [], p, _ => by simp
  | r :: rs, p, h => by
    have := wsum_le (rs := rs) (p := p) fun x hx => h x (by simp [hx])
    have h1 := h r (by simp)
    rw [List.filter_cons]
    split
    · rw [List.map_cons, List.sum_cons, List.map_cons, List.sum_cons]; omega
    · rw [List.map_cons, List.sum_cons]; omega
def wtot (js : List Job) : Int := (js.map (·.w)).sum
theorem ld_le {fr : List Iv} {js : List Job} (h : ∀ j ∈ js, 0 < j.w) {a b : Int} : ld (rowsOf fr js) a b ≤ wtot js := by
  unfold ld wtot
  have := wsum_le (rs := rowsOf fr js) (p := fun r => decide (a ≤ r.f ∧ r.l ≤ b)) fun r hr => by
    obtain ⟨j, hj, rfl⟩ := List.mem_map.mp hr
    have := h j hj
    show 0 ≤ j.w; omega
  have e : (rowsOf fr js).map (·.w) = js.map (·.w) := by unfold rowsOf; rw [List.map_map]; rfl
  rw [e] at this
  exact this
theorem wtot_filter {js : List Job} {p : Job → Bool} (h : ∀ j ∈ js, 0 < j.w) : wtot (js.filter p) ≤ wtot js := by
  induction js with
  | nil => simp [wtot]
  | cons j js ih =>
    have := ih fun x hx => h x (by simp [hx])
    have h1 := h j (by simp)
    unfold wtot at *
    rw [List.filter_cons]
    split
    · rw [List.map_cons, List.sum_cons, List.map_cons, List.sum_cons]; omega
    · rw [List.map_cons, List.sum_cons]; omega
theorem Bs.nn {n : Nat} {i j : Int} (h : Bs n j) (h0 : 0 ≤ i) (h1 : i ≤ j) : Bs n i := h.le (by omega)
/-! ### jobs whose works are ratios -/
structure Jq where
  nm : Str
  c : Int
  d : Int
  w : Rat
def jqD (j : Jq) : D := .tup [.str j.nm, .int j.c, .int j.d, rq j.w]
/-- the least common multiple of the denominators -/
def scl (qs : List Jq) : Nat := qs.foldl (fun s j => Nat.lcm s j.w.den) 1
theorem scl_snoc (qs : List Jq) (q : Jq) : scl (qs ++ [q]) = Nat.lcm (scl qs) q.w.den := by unfold scl; rw [List.foldl_append]; rfl
theorem scl_dvd_app : ∀ {l pre : List Jq}, scl pre ∣ scl (pre ++ l)
  | [], pre => by rw [List.append_nil]; exact Nat.dvd_refl _
  | q :: l, pre => by
    have := scl_dvd_app (l := l) (pre := pre ++ [q])
    rw [List.append_assoc] at this
    refine Nat.dvd_trans ?_ this
    rw [scl_snoc]; exact Nat.dvd_lcm_left _ _
theorem scl_dvd {qs : List Jq} {q : Jq} (h : q ∈ qs) : q.w.den ∣ scl qs := by
  obtain ⟨a, b, rfl⟩ := List.append_of_mem h
  have := scl_dvd_app (l := b) (pre := a ++ [q])
  rw [List.append_assoc] at this
  refine Nat.dvd_trans ?_ this
  rw [scl_snoc]; exact Nat.dvd_lcm_right _ _
theorem scl_pos (qs : List Jq) : 0 < scl qs := by
  have : ∀ (l : List Jq) (s : Nat), 0 < s → 0 < l.foldl (fun s j => Nat.lcm s j.w.den) s := by
    intro l
    induction l with
    | nil => intro s h; exact h
    | cons q l ih => intro s h; exact ih _ (Nat.lcm_pos h q.w.den_pos)
  exact this qs 1 (by omega)
/-- the work in parts -/
def iw (S : Nat) (j : Jq) : Int := j.w.num * ((S : Int) / (j.w.den : Int))
def toJ (S : Nat) (j : Jq) : Job := ⟨j.nm, j.c, j.d, iw S j⟩
theorem iw_rat {S : Nat} {j : Jq} (h : j.w.den ∣ S) : ((iw S j : Int) : Rat) = j.w * (S : Rat) := by
  obtain ⟨k, rfl⟩ := h
  unfold iw
  have hd := j.w.den_pos
  have e : ((j.w.den * k : Nat) : Int) / (j.w.den : Int) = (k : Int) := by
    rw [Int.natCast_mul, Int.mul_ediv_cancel_left _ (by omega)]
  rw [e]
  have h1 := num_eq j.w
  have e2 : (((j.w.den * k : Nat)) : Rat) = ((j.w.den : Int) : Rat) * ((k : Int) : Rat) := by
    rw [← Rat.intCast_mul]; norm_cast
  rw [e2, Rat.intCast_mul, h1]
  grind
theorem iw_pos {S : Nat} {j : Jq} (h : j.w.den ∣ S) (hS : 0 < S) (hw : 0 < j.w) : 0 < iw S j := by
  obtain ⟨k, rfl⟩ := h
  unfold iw
  have hd := j.w.den_pos
  have e : ((j.w.den * k : Nat) : Int) / (j.w.den : Int) = (k : Int) := by
    rw [Int.natCast_mul, Int.mul_ediv_cancel_left _ (by omega)]
  rw [e]
  have hk : 0 < k := Nat.pos_of_mul_pos_left hS
  have hn : 0 < j.w.num := by
    have := (Rat.lt_iff 0 j.w).mp hw
    simpa using this
  exact Int.mul_pos hn (by omega)
/-- the free time at the start -/
def frOf (js : List Job) : List Iv := match js with
  | [] => []
  | j :: r => [(r.foldl (fun m x => min m x.c) j.c, r.foldl (fun m x => max m x.d) j.d)]
theorem fold_min : ∀ (l : List Job) (m : Int), l.foldl (fun m x => min m x.c) m ≤ m ∧ (∀ j ∈ l, l.foldl (fun m x => min m x.c) m ≤ j.c) ∧ (l.foldl (fun m x => min m x.c) m = m ∨ ∃ j ∈ l, l.foldl (fun m x => min m x.c) m = j.c)
  | [], m => ⟨Int.le_refl _, fun j h => (by cases h), .inl rfl⟩
  | x :: l, m => by
    obtain ⟨h1, h2, h3⟩ := fold_min l (min m x.c)
    rw [List.foldl_cons]
    refine ⟨by omega, fun j hj => ?_, ?_⟩
    · rcases List.mem_cons.mp hj with rfl | hj
      · omega
      · exact h2 j hj
    · rcases h3 with h3 | ⟨j, hj, h3⟩
      · by_cases h : m ≤ x.c
        · left; omega
        · right; exact ⟨x, by simp, by omega⟩
      · right; exact ⟨j, by simp [hj], h3⟩
theorem fold_max : ∀ (l : List Job) (m : Int), m ≤ l.foldl (fun m x => max m x.d) m ∧ (∀ j ∈ l, j.d ≤ l.foldl (fun m x => max m x.d) m) ∧ (l.foldl (fun m x => max m x.d) m = m ∨ ∃ j ∈ l, l.foldl (fun m x => max m x.d) m = j.d)
  | [], m => ⟨Int.le_refl _, fun j h => (by cases h), .inl rfl⟩
  | x :: l, m => by
    obtain ⟨h1, h2, h3⟩ := fold_max l (max m x.d)
    rw [List.foldl_cons]
    refine ⟨by omega, fun j hj => ?_, ?_⟩
    · rcases List.mem_cons.mp hj with rfl | hj
      · omega
      · exact h2 j hj
    · rcases h3 with h3 | ⟨j, hj, h3⟩
      · by_cases h : x.d ≤ m
        · left; omega
        · right; exact ⟨x, by simp, by omega⟩
      · right; exact ⟨j, by simp [hj], h3⟩
theorem frOf_ne {js : List Job} (h : js ≠ []) : ∃ lo hi, frOf js = [(lo, hi)] ∧ (∀ j ∈ js, lo ≤ j.c ∧ j.d ≤ hi) ∧ (∃ j ∈ js, lo = j.c) ∧ ∃ j ∈ js, hi = j.d := by
  cases js with
  | nil => exact absurd rfl h
  | cons j r =>
    obtain ⟨a1, a2, a3⟩ := fold_min r j.c
    obtain ⟨b1, b2, b3⟩ := fold_max r j.d
    refine ⟨_, _, rfl, fun x hx => ?_, ?_, ?_⟩
    · rcases List.mem_cons.mp hx with rfl | hx
      · exact ⟨a1, b1⟩
      · exact ⟨a2 x hx, b2 x hx⟩
    · rcases a3 with e | ⟨x, hx, e⟩
      · exact ⟨j, by simp, e⟩
      · exact ⟨x, by simp [hx], e⟩
    · rcases b3 with e | ⟨x, hx, e⟩
      · exact ⟨j, by simp, e⟩
      · exact ⟨x, by simp [hx], e⟩
theorem frOf_ok {js : List Job} (h : ∀ j ∈ js, 0 ≤ j.c ∧ j.c < j.d ∧ 0 < j.w) : RsOk (frOf js) js := by
  by_cases hn : js = []
  · subst hn
    exact ⟨⟨fun p hp => (by cases hp), .nil⟩, fun j hj => (by cases hj), fun j hj => (by cases hj)⟩
  · obtain ⟨lo, hi, e, h1, ⟨x, hx, e1⟩, ⟨y, hy, e2⟩⟩ := frOf_ne hn
    rw [e]
    have hx' := h x hx
    have hxd := (h1 x hx).2
    refine ⟨⟨fun p hp => ?_, by simp⟩, fun j hj => ?_, fun j hj => (h j hj).2.2⟩
    · rw [List.mem_singleton] at hp; subst hp
      show 0 ≤ lo ∧ lo < hi
      omega
    · have := h j hj
      have := h1 j hj
      exact ⟨j.c, ⟨(lo, hi), by simp, by show lo ≤ _; omega, by show _ < hi; omega⟩, by omega, by omega⟩
end Pm

namespace Pm
open PySem PySem.Spec PyProof.Rows L2
/-! ### the same rounds within narrower free time -/
theorem fp_big {fr : List Iv} {b M M' : Int} (h1 : ∀ p ∈ fr, p.2 ≤ M) (h2 : ∀ p ∈ fr, p.2 ≤ M') : fp fr b M = fp fr b M' := by
  induction fr with
  | nil => rfl
  | cons p r ih =>
    rw [fp_cons, fp_cons (p := p) (e := M'), ih (fun q hq => h1 q (by simp [hq])) (fun q hq => h2 q (by simp [hq])), fp_one, fp_one]
    have a := h1 p (by simp)
    have b := h2 p (by simp)
    rw [Int.min_eq_left a, Int.min_eq_left b]
theorem rows_clip {fr : List Iv} (h : FrOk fr) {js : List Job} {lo hi : Int} (hw : ∀ j ∈ js, lo ≤ j.c ∧ j.d ≤ hi) : rowsOf (fp fr lo hi) js = rowsOf fr js := by
  unfold rowsOf
  refine List.map_congr_left fun j hj => ?_
  have := hw j hj
  have e : fp (fp fr lo hi) j.c j.d = fp fr j.c j.d := by
    rw [fp_fp h, Int.max_eq_right this.1, Int.min_eq_right this.2]
  unfold rowOf
  rw [e]
theorem ln_clip {fr : List Iv} (h : FrOk fr) {lo hi a b : Int} (h1 : lo ≤ a) (h2 : b ≤ hi) : ln (fp fr lo hi) a b = ln fr a b := by
  unfold ln
  rw [fp_fp h, Int.max_eq_right h1, Int.min_eq_right h2]
theorem ta_clip {fr : List Iv} (h : FrOk fr) {lo hi a b : Int} (h0 : 0 ≤ lo) (h1 : lo ≤ a) (hab : a ≤ b) (h2 : b ≤ hi) : ta (fp fr lo hi) a b = fp (ta fr a b) lo hi := by
  have hc := h.fp (b := lo) (e := hi)
  have e1 : fp (ta fr a b) lo hi = fp fr lo a ++ fp fr b hi := by
    unfold ta
    rw [fp_app, fp_fp h, fp_fp h]
    congr 1
    · rw [Int.max_eq_right (by omega), Int.min_eq_left (by omega)]
    · rw [Int.max_eq_left (by omega)]
      by_cases hh : hi ≤ lastE fr
      · rw [Int.min_eq_right hh]
      · rw [Int.min_eq_left (by omega)]
        exact fp_big (lastE_le h) (fun p hp => by have := lastE_le h p hp; omega)
  rw [e1]
  unfold ta
  congr 1
  · rw [fp_fp h, Int.max_eq_left (by omega), Int.min_eq_right (by omega)]
  · have e2 : fp (fp fr lo hi) b (lastE (fp fr lo hi)) = fp (fp fr lo hi) b hi := by
      refine fp_big (lastE_le hc) fun p hp => ?_
      obtain ⟨q, _, rfl, _⟩ := mem_fp.mp hp
      unfold clp; simp only; omega
    rw [e2, fp_fp h, Int.max_eq_right (by omega), Int.min_self]
theorem ld_clip {fr : List Iv} {js : List Job} {lo hi a b : Int} (h : FrOk fr) (hw : ∀ j ∈ js, lo ≤ j.c ∧ j.d ≤ hi) : ld (rowsOf (fp fr lo hi) js) a b = ld (rowsOf fr js) a b := by rw [rows_clip h hw]
theorem pair_in {fr : List Iv} {js : List Job} (h : RsOk fr js) {lo hi a b : Int} (hw : ∀ j ∈ js, lo ≤ j.c ∧ j.d ≤ hi) (hp : Pairs (rowsOf fr js) a b) : lo ≤ a ∧ b ≤ hi := by
  obtain ⟨⟨r, hr, e1⟩, ⟨q, hq, e2⟩⟩ := hp
  obtain ⟨j, hj, rfl⟩ := List.mem_map.mp hr
  obtain ⟨k, hk, rfl⟩ := List.mem_map.mp hq
  have f := (rowOf_f h.fo (h.win j hj)).1
  have l := (rowOf_l h.fo (h.win k hk)).1
  have := hw j hj
  have := hw k hk
  omega
theorem Rnds.clip {js : List Job} {fr : List Iv} {rs : List Rd} (hr : Rnds js fr rs) (h : RsOk fr js) {lo hi : Int} (h0 : 0 ≤ lo) (hw : ∀ j ∈ js, lo ≤ j.c ∧ j.d ≤ hi) : Rnds js (fp fr lo hi) rs := by
  induction hr with
  | nil => exact .nil
  | @cons js fr L N a b rs hn hb hnx ih =>
    have hab := best_lt h hb
    obtain ⟨hp, ho, hL, hN, hge⟩ := id hb
    obtain ⟨ha, hbb⟩ := pair_in h hw hp
    have hb' : BestOf (rowsOf (fp fr lo hi) js) (fp fr lo hi) (Pairs (rowsOf (fp fr lo hi) js)) (some (L, N, a, b)) := by
      rw [rows_clip h.fo hw]
      refine ⟨hp, ho, hL, by rw [ln_clip h.fo ha hbb]; exact hN, fun a' b' hp' ho' => ?_⟩
      obtain ⟨ha', hbb'⟩ := pair_in h hw hp'
      unfold geP
      rw [ln_clip h.fo ha hbb, ln_clip h.fo ha' hbb']
      exact hge a' b' hp' ho'
    have ih' := ih (h.next hb) (fun j hj => hw j (List.mem_filter.mp hj).1)
    rw [← ta_clip h.fo h0 ha (by omega) hbb] at ih'
    have e : fp fr a b = fp (fp fr lo hi) a b := by rw [fp_fp h.fo, Int.max_eq_right ha, Int.min_eq_right hbb]
    have er := rows_clip h.fo hw
    rw [e, ← er]
    refine Rnds.cons hn hb' ?_
    rw [er]
    exact ih'
/-- from one long free time -/
theorem rnds_of {js : List Job} {M : Int} {rs : List Rd} (hj : ∀ j ∈ js, 0 ≤ j.c ∧ j.c < j.d ∧ 0 < j.w ∧ j.d ≤ M) (hr : Rnds js [(0, M)] rs) : Rnds js (frOf js) rs := by
  by_cases hn : js = []
  · subst hn
    cases hr with
    | nil => exact .nil
    | cons h _ _ => exact absurd rfl h
  · obtain ⟨lo, hi, e, h1, ⟨x, hx, ex⟩, ⟨y, hy, ey⟩⟩ := frOf_ne hn
    have hx' := hj x hx
    have hy' := hj y hy
    have h := frOf_ok (js := js) fun j hjj => let ⟨a, b, c, _⟩ := hj j hjj; ⟨a, b, c⟩
    have hM : 0 < M := by omega
    have ok : RsOk [(0, M)] js := ⟨⟨fun p hp => by rw [List.mem_singleton] at hp; subst hp; exact ⟨Int.le_refl _, hM⟩, by simp⟩, fun j hjj => by
      have := hj j hjj
      exact ⟨j.c, ⟨(0, M), by simp, by show 0 ≤ j.c; omega, by show j.c < M; omega⟩, Int.le_refl _, by omega⟩, fun j hjj => (hj j hjj).2.2.1⟩
    have lo0 : 0 ≤ lo := by omega
    have lohi : lo < hi := by have := h1 x hx; omega
    have := hr.clip ok lo0 h1
    rw [fp_one] at this
    simp only at this
    rw [Int.max_eq_right lo0, Int.min_eq_right (by omega), if_pos lohi] at this
    rw [e]; exact this
/-- the law's long free time ends where it ended -/
theorem lastE_ta {fr : List Iv} (h : FrOk fr) {a b M : Int} (hl : lastE fr = M) (hne : fr ≠ []) (hb : b < M) : lastE (ta fr a b) = M ∧ ta fr a b ≠ [] := by
  have hm : fr.getLastD (0, 0) ∈ fr := by
    rw [List.getLastD_eq_getLast?, List.getLast?_eq_getLast hne]
    exact List.getLast_mem hne
  have e := List.dropLast_concat_getLast hne
  have eg : fr.getLastD (0, 0) = fr.getLast hne := by rw [List.getLastD_eq_getLast?, List.getLast?_eq_getLast hne]; rfl
  have hpos := (h.pos _ hm).2
  unfold lastE at hl
  rw [eg] at hl hpos
  generalize fr.getLast hne = q at *
  generalize fr.dropLast = pre at *
  have hl0 : (fr.getLastD (0, 0)).2 = M := by rw [eg]; exact hl
  subst e
  have e2 : fp (pre ++ [q]) b M = fp pre b M ++ [(max q.1 b, M)] := by
    rw [fp_app, fp_one, hl, Int.min_self, if_pos (by omega)]
  unfold ta lastE
  rw [hl0, e2]
  refine ⟨?_, by simp⟩
  rw [← List.append_assoc]
  simp
end Pm

namespace Pm
open PySem PySem.Spec PyProof.Rows L2
/-! ### sizes of rounds -/
theorem Rnds.len {js : List Job} {fr : List Iv} {rs : List Rd} (hr : Rnds js fr rs) : rs.length ≤ js.length := by
  induction hr with
  | nil => simp
  | cons hn hb _ ih =>
    have := round_less hb
    rw [List.length_cons]; omega
theorem Rnds.sz {js : List Job} {fr : List Iv} {rs : List Rd} (hr : Rnds js fr rs) : ∀ (m : Nat), js.length ≤ m → ∀ r ∈ rs, r.nms.length ≤ js.length ∧ r.tms.length ≤ fr.length * 2 ^ js.length := by
  induction hr with
  | nil => intro m hm r hr; cases hr
  | @cons js fr L N a b rs hn hb hnx ih =>
    intro m hm r hr
    have hl := round_less hb
    rcases List.mem_cons.mp hr with rfl | hr
    · refine ⟨?_, ?_⟩
      · show (List.map _ _).length ≤ _
        rw [List.length_map]
        refine Nat.le_trans (List.length_filter_le _ _) ?_
        unfold rowsOf; rw [List.length_map]; omega
      · have h1 := fp_len (fr := fr) (b := a) (e := b)
        have h2 : fr.length * 1 ≤ fr.length * 2 ^ js.length := Nat.mul_le_mul_left _ (Nat.pow_pos (by omega))
        show (fp fr a b).length ≤ _
        omega
    · have := ih m (by omega) r hr
      refine ⟨by omega, Nat.le_trans this.2 ?_⟩
      have h1 : (ta fr a b).length ≤ 2 * fr.length := by
        unfold ta
        rw [List.length_append]
        have h1 := fp_len (fr := fr) (b := 0) (e := a)
        have h2 := fp_len (fr := fr) (b := b) (e := lastE fr)
        omega
      generalize hq : (js.filter (outR (((rowsOf fr js).filter (inR a b)).map (·.nm)))).length = q at *
      have h3 : (2 : Nat) ^ (q + 1) ≤ 2 ^ js.length := Nat.pow_le_pow_right (by omega) (by omega)
      calc (ta fr a b).length * 2 ^ q ≤ (2 * fr.length) * 2 ^ q := Nat.mul_le_mul_right _ h1
        _ = fr.length * 2 ^ (q + 1) := by rw [Nat.pow_succ, Nat.mul_comm 2 fr.length, Nat.mul_assoc, Nat.mul_comm 2 (2 ^ q)]
        _ ≤ fr.length * 2 ^ js.length := Nat.mul_le_mul_left _ h3
/-! ### each job is in one round -/
theorem mem_nms {fr : List Iv} {js : List Job} {a b : Int} {n : Str} : n ∈ ((rowsOf fr js).filter (inR a b)).map (·.nm) ↔ ∃ j ∈ js, j.nm = n ∧ inR a b (rowOf fr j) = true := by
  simp only [List.mem_map, List.mem_filter, rowsOf]
  constructor
  · rintro ⟨r, ⟨⟨j, hj, rfl⟩, h2⟩, rfl⟩
    exact ⟨j, hj, rfl, h2⟩
  · rintro ⟨j, hj, rfl, h2⟩
    exact ⟨rowOf fr j, ⟨⟨j, hj, rfl⟩, h2⟩, rfl⟩
theorem Rnds.sub {js : List Job} {fr : List Iv} {rs : List Rd} (hr : Rnds js fr rs) : ∀ r ∈ rs, ∀ n ∈ r.nms, ∃ j ∈ js, j.nm = n := by
  induction hr with
  | nil => intro r hr; cases hr
  | @cons js fr L N a b rs hn hb hnx ih =>
    intro r hr n hnn
    rcases List.mem_cons.mp hr with rfl | hr
    · obtain ⟨j, hj, e, _⟩ := mem_nms.mp hnn
      exact ⟨j, hj, e⟩
    · obtain ⟨j, hj, e⟩ := ih r hr n hnn
      exact ⟨j, (List.mem_filter.mp hj).1, e⟩
theorem Rnds.has {js : List Job} {fr : List Iv} {rs : List Rd} (hr : Rnds js fr rs) : ∀ j ∈ js, ∃ r ∈ rs, j.nm ∈ r.nms := by
  induction hr with
  | nil => intro j hj; cases hj
  | @cons js fr L N a b rs hn hb hnx ih =>
    intro j hj
    by_cases h : j.nm ∈ ((rowsOf fr js).filter (inR a b)).map (·.nm)
    · exact ⟨_, List.mem_cons_self, h⟩
    · obtain ⟨r, hr, h2⟩ := ih j (List.mem_filter.mpr ⟨hj, by unfold outR; rw [decide_eq_false h]; rfl⟩)
      exact ⟨r, List.mem_cons_of_mem _ hr, h2⟩
theorem Rnds.apart {js : List Job} {fr : List Iv} {rs : List Rd} (hr : Rnds js fr rs) : rs.Pairwise fun r s => ∀ n ∈ r.nms, n ∉ s.nms := by
  induction hr with
  | nil => exact .nil
  | @cons js fr L N a b rs hn hb hnx ih =>
    rw [List.pairwise_cons]
    refine ⟨fun s hs n h1 h2 => ?_, ih⟩
    obtain ⟨j, hj, rfl⟩ := hnx.sub s hs n h2
    have := (List.mem_filter.mp hj).2
    unfold outR at this
    rw [decide_eq_true h1] at this
    cases this
/-- the round of a name -/
def rdFor (rs : List Rd) (n : Str) : Option Rd := rs.find? fun r => decide (n ∈ r.nms)
theorem rdFor_filter {n : Str} : ∀ {rs : List Rd}, rs.Pairwise (fun r s => ∀ n ∈ r.nms, n ∉ s.nms) → rs.filter (fun r => decide (n ∈ r.nms)) = (rdFor rs n).toList
  | [], _ => rfl
  | r :: rs, h => by
    rw [List.pairwise_cons] at h
    unfold rdFor
    rw [List.filter_cons, List.find?_cons]
    by_cases hr : n ∈ r.nms
    · rw [if_pos (decide_eq_true hr), decide_eq_true hr]
      have : rs.filter (fun r => decide (n ∈ r.nms)) = [] := by
        rw [List.filter_eq_nil_iff]
        intro s hs z
        exact h.1 s hs n hr (of_decide_eq_true z)
      rw [this]; rfl
    · rw [if_neg (by simpa using hr), decide_eq_false hr]
      exact rdFor_filter h.2
theorem Rnds.for {js : List Job} {fr : List Iv} {rs : List Rd} (hr : Rnds js fr rs) {j : Job} (hj : j ∈ js) : ∃ r ∈ rs, rdFor rs j.nm = some r ∧ j.nm ∈ r.nms := by
  obtain ⟨r, h1, h2⟩ := hr.has j hj
  have : (rdFor rs j.nm).isSome := by
    unfold rdFor
    rw [List.find?_isSome]
    exact ⟨r, h1, decide_eq_true h2⟩
  obtain ⟨r', e⟩ := Option.isSome_iff_exists.mp this
  refine ⟨r', List.mem_of_find?_eq_some e, e, ?_⟩
  have := List.find?_some e
  exact of_decide_eq_true this
/-- the first round -/
theorem frOf_row {js : List Job} (h : ∀ j ∈ js, 0 ≤ j.c ∧ j.c < j.d ∧ 0 < j.w) : ∀ j ∈ js, rowOf (frOf js) j = ⟨j.c, j.d, j.nm, j.w⟩ := by
  intro j hj
  obtain ⟨lo, hi, e, h1, _⟩ := frOf_ne (List.ne_nil_of_mem hj)
  have a := h j hj
  have b := h1 j hj
  unfold rowOf
  rw [e, fp_one]
  simp only
  rw [Int.max_eq_right b.1, Int.min_eq_right b.2, if_pos a.2.1]
  rfl
theorem first_rd {js : List Job} {L N a b : Int} (h : ∀ j ∈ js, 0 ≤ j.c ∧ j.c < j.d ∧ 0 < j.w) (hb : BestOf (rowsOf (frOf js) js) (frOf js) (Pairs (rowsOf (frOf js) js)) (some (L, N, a, b))) : N = b - a ∧ L = ((js.filter fun j => decide (a ≤ j.c ∧ j.d ≤ b)).map (·.w)).sum ∧ a < b := by
  have hok := frOf_ok h
  have hab := best_lt hok hb
  obtain ⟨hp, h2, h3, h4, _⟩ := hb
  refine ⟨?_, ?_, hab⟩
  · obtain ⟨⟨r, hr, e1⟩, ⟨q, hq, e2⟩⟩ := hp
    obtain ⟨j, hj, rfl⟩ := List.mem_map.mp hr
    obtain ⟨k, hk, rfl⟩ := List.mem_map.mp hq
    rw [frOf_row h j hj] at e1
    rw [frOf_row h k hk] at e2
    obtain ⟨lo, hi, e, h1, _⟩ := frOf_ne (List.ne_nil_of_mem hj)
    have b1 := h1 j hj
    have b2 := h1 k hk
    have e1 : j.c = a := e1
    have e2 : k.d = b := e2
    rw [h4, e]
    unfold ln
    rw [fp_one]
    simp only
    rw [Int.max_eq_right (by omega), Int.min_eq_right (by omega), if_pos hab]
    simp
  · rw [h3]
    unfold ld
    have : rowsOf (frOf js) js = js.map fun j => ⟨j.c, j.d, j.nm, j.w⟩ := List.map_congr_left (frOf_row h)
    rw [this, List.filter_map, List.map_map]
    rfl
theorem first_rd2 {js : List Job} {L N a b : Int} (h : ∀ j ∈ js, 0 ≤ j.c ∧ j.c < j.d ∧ 0 < j.w) (hb : BestOf (rowsOf (frOf js) js) (frOf js) (Pairs (rowsOf (frOf js) js)) (some (L, N, a, b))) : (∃ j ∈ js, j.c = a) ∧ ∃ j ∈ js, j.d = b := by
  obtain ⟨⟨⟨r, hr, e1⟩, ⟨q, hq, e2⟩⟩, _⟩ := hb
  obtain ⟨j, hj, rfl⟩ := List.mem_map.mp hr
  obtain ⟨k, hk, rfl⟩ := List.mem_map.mp hq
  rw [frOf_row h j hj] at e1
  rw [frOf_row h k hk] at e2
  exact ⟨⟨j, hj, e1⟩, ⟨k, hk, e2⟩⟩
end Pm

namespace Pm
open PySem PySem.Spec PyProof.Rows L2
local macro_rules | `(tactic| walk_at "pm") => `(tactic| simp only [e_fd, fd_ob, fd_fz, fd_ow, fd_dk, lk_hit, lk_miss, lk_nil, pt_hit, pt_miss, pt_nil, nA_alf, vw_alf, af_ob, fcD_fz, fcD_ow, fcD_dk, cf_alf, cf_al, cf_va, afF_ob, alF_at, fzC_alf, afZ_ob, afZ_fz, afZ_ow, stC_alf, e_sFd, sfd_at, e_me, me_ob, oN_none, isOw_ob, e_mk, hd_cons, e_muR, muR1_ow, muR2_ow, isPl_al, isPl_alf, setR_al, setR_alf, setRf_ob, e_dn, e_dkK, dk1_dk, dk2_k, kD_int, kD_str, e_dg, e_di, e_diT, e_dp, e_keyK, e_dcc, dc_nil, dc_cons, e_srt, seqD_l, seqD_t, e_rev, f_lcm, c_inT, c_ninT, nq_1, nq_2, nq_3, nq_4, nq_5, nq_6, nq_7, Bool.false_bne, Bool.true_bne, e_lcO, e_mth, e_mth0, tyK_lst, tyK_str, tyD_lst, tyD_str, f_index, e_iEnum, enK_one, walkE_lst, walkE_tup, e_cSort, srtK_lst, f_maxL, f_minL, shp_rqs, any_rq, sz0, sz1, sz2, sz3, sz4, sz5, sz6, sz7, sz8, ix_pt0, ix_pt1, true_false_F, c_eqB, c_neB, sq_nx, ix_rq0, ix_rq1, c_eqR, c_neR, c_eqR0, c_neR0, isNon_rq, shp_rqT, clsD_rq_tuple, f_len_rq, e_iAny, walkA_lst, walkA_tup, e_oNone, e_oSome, oiK_int, e_slice, sl_lstD, sl_tupD, sl_strD, intK_int, e_chG, e_chT_le_lt, e_chT_lt_le, e_chT_le_le, e_chT_lt_lt, e_ch_le_lt, e_ch_lt_le, e_ch_le_le, e_ch_lt_lt, f_sum, f_all, f_any, e_mu, muN_ow, muK_ow, f_app, f_ext, f_pop, f_ins, sq_rt, sq_bk, sq_ct, sq_ex, lp_nx, lp_ct, lp_bk, lp_rt, lp_ex, fn_nx, fn_rt, fn_ex, oD_some, oD_none, e_nm, nm_fz, nm_ow, nm_dk, e_nmC, nmc_fz, e_K, vw_fz, vw_ow, vw_al, alV_fz, alV_ow, nA_va, nA_al, fzC_fz, fzC_ow, fzC_al, alZ_fz, alZ_ow, stC_va, stC_al, fzL_nil, fzL_cons, e_fzK, b_addI, b_addS, b_addL, b_addT, b_sub, b_mul, b_div, b_mod, b_pow, c_lt, c_le, c_gt, c_ge, c_eqS, c_neS, c_eqI, c_neI, c_eqT, c_neT, c_eqL, c_neL, c_is, c_isn, c_in, c_nin, isNon_non, isNon_int, isNon_str, isNon_tup, isNon_lst, isNon_bl, shp_intT, shp_nonT, shp_blT, shp_ratT, eqD_rat, e_bin, e_cmp, e_cmpT, e_tru, tru_bl, tru_int, tru_non, tru_lst, tru_tup, tru_str, trs_bl, trs_int, trs_non, trs_lst, trs_tup, trs_str, e_and, e_or, e_not, e_yes, isB_bl, e_andV, e_orV, e_notV, e_ifE, e_neg, neg_int, e_aNil, e_aOne, e_aCons, e_tup, e_lst, e_ix, ix_tupD, ix_lstD, ix_strD, e_isi, e_cb, e_cD1, e_cD2, e_list, list_tup, list_lst, list_scr, e_tuple, tup_tup, tup_lst, f_len_tup, f_len_lst, f_len_scr, f_len_str, f_int, f_abs, f_gcd, f_max, f_min, e_call, e_callK, fzM_nil, fzM_f, fzM_t, isOw_fz, isOw_ow, isOw_no, isOw_dk, brs_nil, brs_l, brs_r, cts_nil, cts_l, cts_r, wb_nil, wb_l, wb_r, outs_nil, outs_cons, ret_va, ret_al, e_sNil, e_seq, e_pass, e_brk, e_cnt, e_never, e_ret, e_retN, e_exp, e_if, e_set, e_aug, aug_int, augK_int, e_par, par_2, e_asg, e_sub, subN_ow, subK_ow, e_for, for_nil, for_cons, tg_nm, tg_tp, tgs_nil, tgs_cons, e_rng1, e_rng2, rngL1_1, rngL2_2, rngK1_int, rngK2_int, e_iLst, e_iTup, walkL_lst, walkT_tup, e_lc, lc_nil, lc_cons, wipeE_nil, wipeE_cons, clsD_int_int, clsD_int_bool, clsD_int_str, clsD_int_tuple, clsD_str_str, clsD_str_tuple, clsD_str_int, clsD_tup_tuple, clsD_tup_str, clsD_tup_int, clsD_non_tuple, clsD_non_str, clsD_non_int, clsD_bl_bool, clsD_bl_int, clsD_bl_tuple, atI_0, atI_1, atI_2, atI_3, atI_4, ixN5_0, ixN5_1, ixN5_2, ixN5_3, ixN5_4, List.map_cons, List.map_nil, List.cons_append, List.nil_append, List.append_nil, List.replicate, List.getElem?_cons_zero, List.getElem?_cons_succ, List.getD_cons_zero, List.getD_cons_succ, List.set_cons_zero, List.set_cons_succ, Option.bind_some, Option.bind_none, List.length_cons, List.length_nil, if_true, if_false, Bool.false_eq_true, Bool.not_true, Bool.not_false, Bool.not_eq_true', decide_eq_true_eq, decide_eq_false_iff_not, and_true, true_and, List.mem_cons, List.not_mem_nil, or_false, forall_eq, false_imp_iff, implies_true, List.nodup_nil, List.nodup_cons, not_false_eq_true, List.isEmpty_cons, List.isEmpty_nil, List.tail_cons, List.tail_nil])
theorem mx_eq {s b : Int} : (if b > s then b else s) = max s b := by omega
theorem mn_eq {s b : Int} : (if b < s then b else s) = min s b := by omega
def B_free_part_1 : TSp :=
  (sIf (tCmpT .Lt (tNm 6) (tNm 7)) (sExp (tMu 3 fApp (tAOne (tTup (tACons (tNm 6) (tAOne (tNm 7))))))) sNil)
def B_free_part_2 : TSp :=
  (sSeq (sPar 6 7 (tACons (tCb (cD2 fMax) (tACons (tNm 4) (tAOne (tNm 1)))) (tAOne (tCb (cD2 fMin) (tACons (tNm 5) (tAOne (tNm 2)))))))
    B_free_part_1)
def B_free_part_3 : TSp :=
  (sSeq (sFor (iAny (tNm 0)) (.tp [.nm 4, .nm 5]) B_free_part_2)
    (sRet (tNm 3)))
def T_free_part : TSp :=
  (sSeq (sSet 3 (tLst tANil))
    B_free_part_3)
def φ_free_part : Fn := fun cs R0 _ => ∃ (fr : List Iv) (b e : Int), cs = [Fz (.lst (fr.map ivD)), Fz (.int b), Fz (.int e)] ∧ fr.length ≤ 10000 ∧ R0 (Wl ((fp fr b e).map ivD)) [.no, .no, .no]
theorem sp_free_part (cs : List Ct) (R0 : Ct → List Ct → Prop) (E0 : Exn → List Ct → Prop) : φ_free_part cs R0 E0 → fnOf 5 [] T_free_part cs R0 E0 := by
  rintro ⟨fr, b, e, rfl, hl, h⟩
  rw [fnOf_eq]
  refine ⟨noOw _ rfl, ?_⟩
  unfold T_free_part B_free_part_3
  have loop : ∀ EE : Ep, (∀ c4 c5 c6 c7, EE.nx [Fz (.lst (fr.map ivD)), Fz (.int b), Fz (.int e), Wl ((fp fr b e).map ivD), c4, c5, c6, c7]) → forK (.tp [.nm 4, .nm 5]) B_free_part_2 (fr.map ivD) [Fz (.lst (fr.map ivD)), Fz (.int b), Fz (.int e), Wl [], .no, .no, .no, .no] EE := by
    intro EE hEE
    refine for_ind (f := ivD) (fun r2 ρ => ∃ (pre : List Iv) (c4 c5 c6 c7 : Ct), ρ = [Fz (.lst (fr.map ivD)), Fz (.int b), Fz (.int e), Wl ((fp pre b e).map ivD), c4, c5, c6, c7] ∧ fr = pre ++ r2) ?_ ?_ fr _ ⟨[], _, _, _, _, rfl, rfl⟩
    · rintro p r2 ρ K ⟨pre, c4, c5, c6, c7, rfl, hpre⟩ hK
      have fin : ∀ c4 c5 c6 c7, K [Fz (.lst (fr.map ivD)), Fz (.int b), Fz (.int e), Wl ((fp (pre ++ [p]) b e).map ivD), c4, c5, c6, c7] := fun c4 c5 c6 c7 => hK _ ⟨pre ++ [p], c4, c5, c6, c7, rfl, by rw [hpre, List.append_assoc]; rfl⟩
      have hfl := fp_len (fr := pre) (b := b) (e := e)
      have hlp : fr.length = pre.length + (r2.length + 1) := by rw [hpre]; simp
      rw [fp_app, fp_one, List.map_append] at fin
      have eiv : ivD p = .tup [.int p.1, .int p.2] := rfl
      unfold B_free_part_2 B_free_part_1
      rw [eiv]
      walk_at "pm"
      simp only [mx_eq, mn_eq]
      by_cases hc : max p.1 b < min p.2 e
      · rw [if_pos hc] at fin
        rw [if_pos hc]
        exact ⟨Nat.lt_of_lt_of_le (show ((fp pre b e).map ivD).length < 20000 by rw [List.length_map]; omega) (line_small (by omega)), fin _ _ _ _⟩
      · rw [if_neg hc] at fin
        rw [if_neg hc]
        rw [List.map_nil, List.append_nil] at fin
        exact fin _ _ _ _
    · rintro ρ ⟨pre, c4, c5, c6, c7, rfl, hpre⟩
      rw [List.append_nil] at hpre
      subst hpre
      exact hEE _ _ _ _
  walk_at "pm"
  refine loop _ fun c4 c5 c6 c7 => ?_
  walk_at "pm"
  exact h
def T_taken_away : TSp :=
  (sRet (tBin (opB .Add) (tCall φ_free_part [false, false, false] [] (tACons (tNm 0) (tACons (tK (.int 0)) (tAOne (tNm 1))))) (tCall φ_free_part [false, false, false] [] (tACons (tNm 0) (tACons (tNm 2) (tAOne (tIx (tIx (tNm 0) (tNeg (tK (.int 1)))) (tK (.int 1)))))))))
theorem lastE_at {fr : List Iv} (h : fr ≠ []) : atI (fr.map ivD) (-1) = some (ivD (fr.getLastD (0, 0))) := by
  have hl : 0 < fr.length := List.length_pos_iff.mpr h
  unfold atI
  have e : ixN (fr.map ivD).length (-1) = some (fr.length - 1) := by
    rw [List.length_map]
    unfold ixN
    simp only [show ¬ (0 : Int) ≤ -1 by omega, if_false]
    split
    · congr 1; omega
    · omega
  rw [e]
  show (fr.map ivD)[fr.length - 1]? = _
  rw [List.getElem?_map, List.getLastD_eq_getLast?, List.getLast?_eq_getElem?]
  have : fr[fr.length - 1]? = some fr[fr.length - 1] := List.getElem?_eq_getElem (by omega)
  rw [this]; rfl
def φ_taken_away : Fn := fun cs R0 _ => ∃ (fr : List Iv) (b e : Int), cs = [Fz (.lst (fr.map ivD)), Fz (.int b), Fz (.int e)] ∧ fr ≠ [] ∧ fr.length ≤ 10000 ∧ R0 (Wl ((ta fr b e).map ivD)) [.no, .no, .no]
theorem sp_taken_away (cs : List Ct) (R0 : Ct → List Ct → Prop) (E0 : Exn → List Ct → Prop) : φ_taken_away cs R0 E0 → fnOf 0 [] T_taken_away cs R0 E0 := by
  rintro ⟨fr, b, e, rfl, hne, hl, h⟩
  rw [fnOf_eq]
  refine ⟨noOw _ rfl, ?_⟩
  unfold T_taken_away
  have eiv : ivD (fr.getLastD (0, 0)) = .tup [.int (fr.getLastD (0, 0)).1, .int (fr.getLastD (0, 0)).2] := rfl
  walk_at "pm"
  refine ⟨fr, _, _, rfl, hl, ?_⟩
  walk_at "pm"
  rw [lastE_at hne, eiv]
  walk_at "pm"
  refine ⟨fr, _, _, rfl, hl, ?_⟩
  walk_at "pm"
  have h1 := fp_len (fr := fr) (b := 0) (e := b)
  have h2 := fp_len (fr := fr) (b := e) (e := (fr.getLastD (0, 0)).2)
  refine ⟨line_small (by rw [List.length_map, List.length_map]; omega), ?_⟩
  unfold ta at h
  rw [List.map_append] at h
  exact h
end Pm

namespace Pm
open PySem PySem.Spec PyProof.Rows L2
local macro_rules | `(tactic| walk_at "pm") => `(tactic| simp only [e_fd, fd_ob, fd_fz, fd_ow, fd_dk, lk_hit, lk_miss, lk_nil, pt_hit, pt_miss, pt_nil, nA_alf, vw_alf, af_ob, fcD_fz, fcD_ow, fcD_dk, cf_alf, cf_al, cf_va, afF_ob, alF_at, fzC_alf, afZ_ob, afZ_fz, afZ_ow, stC_alf, e_sFd, sfd_at, e_me, me_ob, oN_none, isOw_ob, e_mk, hd_cons, e_muR, muR1_ow, muR2_ow, isPl_al, isPl_alf, setR_al, setR_alf, setRf_ob, e_dn, e_dkK, dk1_dk, dk2_k, kD_int, kD_str, e_dg, e_di, e_diT, e_dp, e_keyK, e_dcc, dc_nil, dc_cons, e_srt, seqD_l, seqD_t, e_rev, f_lcm, c_inT, c_ninT, nq_1, nq_2, nq_3, nq_4, nq_5, nq_6, nq_7, Bool.false_bne, Bool.true_bne, e_lcO, e_mth, e_mth0, tyK_lst, tyK_str, tyD_lst, tyD_str, f_index, e_iEnum, enK_one, walkE_lst, walkE_tup, e_cSort, srtK_lst, f_maxL, f_minL, shp_rqs, any_rq, sz0, sz1, sz2, sz3, sz4, sz5, sz6, sz7, sz8, ix_pt0, ix_pt1, true_false_F, c_eqB, c_neB, sq_nx, ix_rq0, ix_rq1, c_eqR, c_neR, c_eqR0, c_neR0, isNon_rq, shp_rqT, clsD_rq_tuple, f_len_rq, e_iAny, walkA_lst, walkA_tup, e_oNone, e_oSome, oiK_int, e_slice, sl_lstD, sl_tupD, sl_strD, intK_int, e_chG, e_chT_le_lt, e_chT_lt_le, e_chT_le_le, e_chT_lt_lt, e_ch_le_lt, e_ch_lt_le, e_ch_le_le, e_ch_lt_lt, f_sum, f_all, f_any, e_mu, muN_ow, muK_ow, f_app, f_ext, f_pop, f_ins, sq_rt, sq_bk, sq_ct, sq_ex, lp_nx, lp_ct, lp_bk, lp_rt, lp_ex, fn_nx, fn_rt, fn_ex, oD_some, oD_none, e_nm, nm_fz, nm_ow, nm_dk, e_nmC, nmc_fz, e_K, vw_fz, vw_ow, vw_al, alV_fz, alV_ow, nA_va, nA_al, fzC_fz, fzC_ow, fzC_al, alZ_fz, alZ_ow, stC_va, stC_al, fzL_nil, fzL_cons, e_fzK, b_addI, b_addS, b_addL, b_addT, b_sub, b_mul, b_div, b_mod, b_pow, c_lt, c_le, c_gt, c_ge, c_eqS, c_neS, c_eqI, c_neI, c_eqT, c_neT, c_eqL, c_neL, c_is, c_isn, c_in, c_nin, isNon_non, isNon_int, isNon_str, isNon_tup, isNon_lst, isNon_bl, shp_intT, shp_nonT, shp_blT, shp_ratT, eqD_rat, e_bin, e_cmp, e_cmpT, e_tru, tru_bl, tru_int, tru_non, tru_lst, tru_tup, tru_str, trs_bl, trs_int, trs_non, trs_lst, trs_tup, trs_str, e_and, e_or, e_not, e_yes, isB_bl, e_andV, e_orV, e_notV, e_ifE, e_neg, neg_int, e_aNil, e_aOne, e_aCons, e_tup, e_lst, e_ix, ix_tupD, ix_lstD, ix_strD, e_isi, e_cb, e_cD1, e_cD2, e_list, list_tup, list_lst, list_scr, e_tuple, tup_tup, tup_lst, f_len_tup, f_len_lst, f_len_scr, f_len_str, f_int, f_abs, f_gcd, f_max, f_min, e_call, e_callK, fzM_nil, fzM_f, fzM_t, isOw_fz, isOw_ow, isOw_no, isOw_dk, brs_nil, brs_l, brs_r, cts_nil, cts_l, cts_r, wb_nil, wb_l, wb_r, outs_nil, outs_cons, ret_va, ret_al, e_sNil, e_seq, e_pass, e_brk, e_cnt, e_never, e_ret, e_retN, e_exp, e_if, e_set, e_aug, aug_int, augK_int, e_par, par_2, e_asg, e_sub, subN_ow, subK_ow, e_for, for_nil, for_cons, tg_nm, tg_tp, tgs_nil, tgs_cons, e_rng1, e_rng2, rngL1_1, rngL2_2, rngK1_int, rngK2_int, e_iLst, e_iTup, walkL_lst, walkT_tup, e_lc, lc_nil, lc_cons, wipeE_nil, wipeE_cons, clsD_int_int, clsD_int_bool, clsD_int_str, clsD_int_tuple, clsD_str_str, clsD_str_tuple, clsD_str_int, clsD_tup_tuple, clsD_tup_str, clsD_tup_int, clsD_non_tuple, clsD_non_str, clsD_non_int, clsD_bl_bool, clsD_bl_int, clsD_bl_tuple, atI_0, atI_1, atI_2, atI_3, atI_4, ixN5_0, ixN5_1, ixN5_2, ixN5_3, ixN5_4, List.map_cons, List.map_nil, List.cons_append, List.nil_append, List.append_nil, List.replicate, List.getElem?_cons_zero, List.getElem?_cons_succ, List.getD_cons_zero, List.getD_cons_succ, List.set_cons_zero, List.set_cons_succ, Option.bind_some, Option.bind_none, List.length_cons, List.length_nil, if_true, if_false, Bool.false_eq_true, Bool.not_true, Bool.not_false, Bool.not_eq_true', decide_eq_true_eq, decide_eq_false_iff_not, and_true, true_and, List.mem_cons, List.not_mem_nil, or_false, forall_eq, false_imp_iff, implies_true, List.nodup_nil, List.nodup_cons, not_false_eq_true, List.isEmpty_cons, List.isEmpty_nil, List.tail_cons, List.tail_nil])
theorem fi_iv0 {L : List Iv} (h : L ≠ []) : atI (L.map ivD) 0 = some (ivD (L.headD (0, 0))) := by
  cases L with
  | nil => exact absurd rfl h
  | cons p r => exact atI_0
abbrev scOb (fr : List Iv) (rc : FC) : Ct := .ob "Scan" [("free", .fz (.lst (fr.map ivD))), ("rows", rc)]
def rcOk (rs : List Row) (rc : FC) : Prop := rc = .ow (rs.map rwD) ∨ rc = .fz (.lst (rs.map rwD))
def B_Scan___init___1 : TSp :=
  (sSeq (sSet 7 (tCall φ_free_part [false, false, false] [] (tACons (tNm 2) (tACons (tNm 4) (tAOne (tNm 5))))))
    (sExp (tMuR fApp (tFd "Scan" 0 "rows") (tAOne (tTup (tACons (tIx (tIx (tNm 7) (tK (.int 0))) (tK (.int 0))) (tACons (tIx (tIx (tNm 7) (tNeg (tK (.int 1)))) (tK (.int 1))) (tACons (tNm 3) (tAOne (tNm 6))))))))))
def B_Scan___init___2 : TSp :=
  (sFor (iAny (tNm 1)) (.tp [.nm 3, .nm 4, .nm 5, .nm 6]) B_Scan___init___1)
def B_Scan___init___3 : TSp :=
  (sSeq (sFd "Scan" 0 "rows" (tLst tANil))
    B_Scan___init___2)
def T_Scan___init__ : TSp :=
  (sSeq (sFd "Scan" 0 "free" (tNm 2))
    B_Scan___init___3)
def φ_Scan___init__ : Fn := fun cs R0 _ => ∃ (fr : List Iv) (js : List Job), cs = [.ob "Scan" [], Fz (.lst (js.map jbD)), Fz (.lst (fr.map ivD))] ∧ fr.length ≤ 10000 ∧ js.length ≤ 1000 ∧ (∀ j ∈ js, Win fr j) ∧ R0 (Fz .non) [scOb fr (.ow ((rowsOf fr js).map rwD)), .no, .no]
theorem sp_Scan___init__ (cs : List Ct) (R0 : Ct → List Ct → Prop) (E0 : Exn → List Ct → Prop) : φ_Scan___init__ cs R0 E0 → fnOf 5 [0] T_Scan___init__ cs R0 E0 := by
  rintro ⟨fr, js, rfl, hl, hjl, hw, h⟩
  rw [fnOf_eq]
  refine ⟨ow0 rfl, ?_⟩
  have loop : ∀ EE : Ep, (∀ c3 c4 c5 c6 c7, EE.nx [scOb fr (.ow ((rowsOf fr js).map rwD)), Fz (.lst (js.map jbD)), Fz (.lst (fr.map ivD)), c3, c4, c5, c6, c7]) → forK (.tp [.nm 3, .nm 4, .nm 5, .nm 6]) B_Scan___init___1 (js.map jbD) [scOb fr (.ow []), Fz (.lst (js.map jbD)), Fz (.lst (fr.map ivD)), .no, .no, .no, .no, .no] EE := by
    intro EE hEE
    refine for_ind (f := jbD) (fun r2 ρ => ∃ (pre : List Job) (c3 c4 c5 c6 c7 : Ct), ρ = [scOb fr (.ow ((rowsOf fr pre).map rwD)), Fz (.lst (js.map jbD)), Fz (.lst (fr.map ivD)), c3, c4, c5, c6, c7] ∧ js = pre ++ r2) ?_ ?_ js _ ⟨[], _, _, _, _, _, rfl, rfl⟩
    · rintro j r2 ρ K ⟨pre, c3, c4, c5, c6, c7, rfl, hpre⟩ hK
      have fin : ∀ c3 c4 c5 c6 c7, K [scOb fr (.ow ((rowsOf fr (pre ++ [j])).map rwD)), Fz (.lst (js.map jbD)), Fz (.lst (fr.map ivD)), c3, c4, c5, c6, c7] := fun c3 c4 c5 c6 c7 => hK _ ⟨pre ++ [j], c3, c4, c5, c6, c7, rfl, by rw [hpre, List.append_assoc]; rfl⟩
      have hj : j ∈ js := by rw [hpre]; simp
      have hne := fp_ne.mpr (hw j hj)
      have hlp : js.length = pre.length + (r2.length + 1) := by rw [hpre]; simp
      have ejb : jbD j = .tup [.str j.nm, .int j.c, .int j.d, .int j.w] := rfl
      have e1 : ivD ((fp fr j.c j.d).headD (0, 0)) = .tup [.int ((fp fr j.c j.d).headD (0, 0)).1, .int ((fp fr j.c j.d).headD (0, 0)).2] := rfl
      have e2 : ivD ((fp fr j.c j.d).getLastD (0, 0)) = .tup [.int ((fp fr j.c j.d).getLastD (0, 0)).1, .int ((fp fr j.c j.d).getLastD (0, 0)).2] := rfl
      unfold B_Scan___init___1
      rw [ejb]
      walk_at "pm"
      refine ⟨fr, _, _, rfl, hl, ?_⟩
      walk_at "pm"
      rw [fi_iv0 hne, e1]
      walk_at "pm"
      rw [lastE_at hne, e2]
      walk_at "pm"
      refine ⟨Nat.lt_of_lt_of_le (show ((rowsOf fr pre).map rwD).length < 2000 by rw [List.length_map]; unfold rowsOf; rw [List.length_map]; omega) (line_small (by omega)), ?_⟩
      have hh := fin (Fz (.str j.nm)) (Fz (.int j.c)) (Fz (.int j.d)) (Fz (.int j.w)) (Wl ((fp fr j.c j.d).map ivD))
      unfold rowsOf at hh
      rw [List.map_append, List.map_append] at hh
      exact hh
    · rintro ρ ⟨pre, c3, c4, c5, c6, c7, rfl, hpre⟩
      rw [List.append_nil] at hpre
      subst hpre
      exact hEE _ _ _ _ _
  unfold T_Scan___init__ B_Scan___init___3 B_Scan___init___2
  walk_at "pm"
  refine ⟨by decide, by decide, loop _ fun c3 c4 c5 c6 c7 => ?_⟩
  exact h
def T_Scan_load : TSp :=
  (sRet (tCb (cD1 fSum) (tAOne (tLc' (iAny (tFd "Scan" 0 "rows")) (.tp [.nm 3, .nm 4, .nm 5, .nm 6]) (tAnd (tCmpT .LtE (tNm 1) (tNmC 3)) (tCmpT .LtE (tNmC 4) (tNm 2))) (tNmC 6) [3, 4, 5, 6]))))
def φ_Scan_load : Fn := fun cs R0 _ => ∃ (fr : List Iv) (rs : List Row) (rc : FC) (a b : Int), cs = [scOb fr rc, Fz (.int a), Fz (.int b)] ∧ rcOk rs rc ∧ rs.length ≤ 1000 ∧ R0 (Fz (.int (ld rs a b))) [scOb fr (.fz (.lst (rs.map rwD))), .no, .no]
theorem ld_ints {rs : List Row} {a b : Int} : ints? (rs.flatMap fun r => if (decide (a ≤ r.f) && decide (r.l ≤ b)) = true then [D.int r.w] else []) = some ((rs.filter fun r => decide (a ≤ r.f ∧ r.l ≤ b)).map (·.w)) := by
  induction rs with
  | nil => rfl
  | cons r rs ih =>
    rw [List.flatMap_cons, List.filter_cons]
    by_cases h : a ≤ r.f ∧ r.l ≤ b
    · rw [if_pos (by simp [h.1, h.2]), if_pos (decide_eq_true h)]
      show (ints? _).map (r.w :: ·) = _
      show (ints? (rs.flatMap _)).map (r.w :: ·) = _
      rw [ih]; rfl
    · rw [if_neg (by intro z; simp at z; exact h z), if_neg (by simpa using h)]
      exact ih
theorem sp_Scan_load (cs : List Ct) (R0 : Ct → List Ct → Prop) (E0 : Exn → List Ct → Prop) : φ_Scan_load cs R0 E0 → fnOf 4 [0] T_Scan_load cs R0 E0 := by
  rintro ⟨fr, rs, rc, a, b, rfl, hrc, hl, h⟩
  rw [fnOf_eq]
  refine ⟨ow0 rfl, ?_⟩
  unfold T_Scan_load
  rcases hrc with rfl | rfl
  all_goals
    walk_at "pm"
    refine lc_pure (f := rwD) (fun r : Row => if (decide (a ≤ r.f) && decide (r.l ≤ b)) = true then [D.int r.w] else []) _ (fun _ => True) ?_ (fun r => by split <;> simp) rs [] (fun _ _ => trivial) (line_small (by rw [List.length_nil]; omega)) ?_
    · intro r acc K _ hacc hK
      have er : rwD r = .tup [.int r.f, .int r.l, .str r.nm, .int r.w] := rfl
      rw [er]
      walk_at "pm"
      by_cases h1 : a ≤ r.f
      · rw [if_pos h1]
        by_cases h2 : r.l ≤ b
        · rw [if_pos h2]
          rw [if_pos (by simp [h1, h2])] at hK
          exact ⟨hacc, hK⟩
        · rw [if_neg h2]
          rw [if_neg (by simp [h2]), List.append_nil] at hK
          exact hK
      · rw [if_neg h1]
        rw [if_neg (by simp [h1]), List.append_nil] at hK
        exact hK
    · walk_at "pm"
      rw [ld_ints]
      walk_at "pm"
      exact h
def T_Scan_length : TSp :=
  (sRet (tCb (cD1 fSum) (tAOne (tLc' (iAny (tCall φ_free_part [false, false, false] [] (tACons (tFd "Scan" 0 "free") (tACons (tNm 1) (tAOne (tNm 2)))))) (.tp [.nm 3, .nm 4]) tYes' (tBin (opB .Sub) (tNmC 4) (tNmC 3)) [3, 4]))))
def φ_Scan_length : Fn := fun cs R0 _ => ∃ (fr : List Iv) (rc : FC) (a b : Int), cs = [scOb fr rc, Fz (.int a), Fz (.int b)] ∧ fr.length ≤ 10000 ∧ R0 (Fz (.int (ln fr a b))) [scOb fr rc, .no, .no]
theorem ints_len {L : List Iv} : ints? (L.flatMap fun p => [D.int (p.2 - p.1)]) = some (L.map fun p => p.2 - p.1) := by
  rw [flat1]
  have : L.map (fun p : Iv => D.int (p.2 - p.1)) = (L.map fun p => p.2 - p.1).map .int := by rw [List.map_map]; rfl
  rw [this, ints_map]
theorem sp_Scan_length (cs : List Ct) (R0 : Ct → List Ct → Prop) (E0 : Exn → List Ct → Prop) : φ_Scan_length cs R0 E0 → fnOf 2 [0] T_Scan_length cs R0 E0 := by
  rintro ⟨fr, rc, a, b, rfl, hl, h⟩
  rw [fnOf_eq]
  refine ⟨ow0 rfl, ?_⟩
  unfold T_Scan_length
  walk_at "pm"
  refine ⟨fr, a, b, rfl, hl, ?_⟩
  walk_at "pm"
  have hfl := fp_len (fr := fr) (b := a) (e := b)
  refine lc_pure (f := ivD) (fun p : Iv => [D.int (p.2 - p.1)]) _ (fun _ => True) ?_ (fun r => by simp) (fp fr a b) [] (fun _ _ => trivial) (line_small (by rw [List.length_nil]; omega)) ?_
  · intro p acc K _ hacc hK
    have er : ivD p = .tup [.int p.1, .int p.2] := rfl
    rw [er]
    walk_at "pm"
    exact ⟨hacc, hK⟩
  · walk_at "pm"
    rw [ints_len]
    walk_at "pm"
    exact h
def B_Scan_densest_1 : TSp :=
  (sIf (tOr (tCmpT .Is (tNm 1) (tK .non)) (tCmpT .Gt (tBin (opB .Mult) (tNm 4) (tIx (tNm 1) (tK (.int 1)))) (tBin (opB .Mult) (tIx (tNm 1) (tK (.int 0))) (tNm 5)))) (sSet 1 (tTup (tACons (tNm 4) (tACons (tNm 5) (tACons (tNm 2) (tAOne (tNm 3))))))) sNil)
def B_Scan_densest_2 : TSp :=
  (sSeq (sSet 5 (tMe "Scan" 0 "length" φ_Scan_length [false, false] [] (tACons (tNm 2) (tAOne (tNm 3)))))
    B_Scan_densest_1)
def B_Scan_densest_3 : TSp :=
  (sIf (tCmpT .Gt (tNm 4) (tK (.int 0))) B_Scan_densest_2 sNil)
def B_Scan_densest_4 : TSp :=
  (sSeq (sSet 4 (tIfE (tCmpT .Lt (tNm 2) (tNm 3)) (tMe "Scan" 0 "load" φ_Scan_load [false, false] [] (tACons (tNm 2) (tAOne (tNm 3)))) (tK (.int 0))))
    B_Scan_densest_3)
def B_Scan_densest_5 : TSp :=
  (sFor (iRev (tSrt 1 (tFd "Scan" 0 "rows"))) (.nm 3) B_Scan_densest_4)
def B_Scan_densest_6 : TSp :=
  (sSeq (sFor (iAny (tSrt 0 (tFd "Scan" 0 "rows"))) (.nm 2) B_Scan_densest_5)
    (sRet (tNm 1)))
def T_Scan_densest : TSp :=
  (sSeq (sSet 1 (tK .non))
    B_Scan_densest_6)
def φ_Scan_densest : Fn := fun cs R0 _ => ∃ (m : Nat) (fr : List Iv) (js : List Job) (rc : FC), cs = [scOb fr rc] ∧ rcOk (rowsOf fr js) rc ∧ fr.length ≤ 10000 ∧ js.length < 64 ∧ RsOk fr js ∧ m ≤ 400000 ∧ (∀ a b, Bs m (ld (rowsOf fr js) a b)) ∧ (∀ a b, Bs m (ln fr a b)) ∧
  ∀ best, BestOf (rowsOf fr js) fr (Pairs (rowsOf fr js)) best → R0 (Fz (bstD best)) [scOb fr (.fz (.lst ((rowsOf fr js).map rwD)))]
theorem col0 {rs : List Row} : colI 0 (rs.map rwD) = some (rs.map (·.f)) := by
  induction rs with
  | nil => rfl
  | cons r rs ih =>
    rw [List.map_cons]
    unfold colI
    rw [ih]
    have : colD 0 (rwD r) = some r.f := rfl
    rw [this]; rfl
theorem col1 {rs : List Row} : colI 1 (rs.map rwD) = some (rs.map (·.l)) := by
  induction rs with
  | nil => rfl
  | cons r rs ih =>
    rw [List.map_cons]
    unfold colI
    rw [ih]
    have : colD 1 (rwD r) = some r.l := rfl
    rw [this]; rfl
section
variable {fr : List Iv} {js : List Job}
abbrev dsE (fr : List Iv) (js : List Job) (best : Option (Int × Int × Int × Int)) (c2 c3 c4 c5 c6 : Ct) : En := [scOb fr (.fz (.lst ((rowsOf fr js).map rwD))), Fz (bstD best), c2, c3, c4, c5, c6]
theorem dens_body {m : Nat} {a b : Int} {P : Int → Int → Prop} {best : Option (Int × Int × Int × Int)} {EE : Ep} {K : En → Prop} {c4 c5 c6 : Ct} (hfl : fr.length ≤ 10000) (hjl : js.length < 64) (h : RsOk fr js) (hm : m ≤ 400000) (hld : ∀ a b, Bs m (ld (rowsOf fr js) a b)) (hln : ∀ a b, Bs m (ln fr a b))
    (hb : BestOf (rowsOf fr js) fr P best) (hord : ∀ x y, P x y → x < a ∨ (x = a ∧ b < y)) (hK : ∀ best c4 c5, BestOf (rowsOf fr js) fr (fun x y => P x y ∨ (x = a ∧ y = b)) best → K (dsE fr js best (Fz (.int a)) (Fz (.int b)) c4 c5 c6)) :
    B_Scan_densest_4 (dsE fr js best (Fz (.int a)) (Fz (.int b)) c4 c5 c6) (EE.lp K) := by
  have hrl : (rowsOf fr js).length ≤ 1000 := by unfold rowsOf; rw [List.length_map]; omega
  -- what is known of the load
  have rest : ∀ l : Int, (okP (rowsOf fr js) a b ↔ 0 < l) → (0 < l → l = ld (rowsOf fr js) a b) → B_Scan_densest_3 (dsE fr js best (Fz (.int a)) (Fz (.int b)) (Fz (.int l)) c5 c6) (EE.lp K) := by
    intro l hl1 hl2
    unfold B_Scan_densest_3
    walk_at "pm"
    by_cases hl : 0 < l
    · rw [if_pos (by omega)]
      have el := hl2 hl
      subst el
      have ho := hl1.mpr hl
      unfold B_Scan_densest_2
      walk_at "pm"
      refine ⟨fr, _, a, b, rfl, hfl, ?_⟩
      walk_at "pm"
      have upd : (∀ L N a' b', best = some (L, N, a', b') → L * ln fr a b < ld (rowsOf fr js) a b * N) → K (dsE fr js (some (ld (rowsOf fr js) a b, ln fr a b, a, b)) (Fz (.int a)) (Fz (.int b)) (Fz (.int (ld (rowsOf fr js) a b))) (Fz (.int (ln fr a b))) c6) := fun hx => by
        refine hK _ _ _ (best_take h hb ho fun L N a' b' e => ?_)
        have e2 := hx L N a' b' e
        subst e
        obtain ⟨_, _, b3, b4, _⟩ := hb
        left
        rw [← b3, ← b4]; exact e2
      have kp : (∃ L N a' b', best = some (L, N, a', b') ∧ ¬ L * ln fr a b < ld (rowsOf fr js) a b * N) → K (dsE fr js best (Fz (.int a)) (Fz (.int b)) (Fz (.int (ld (rowsOf fr js) a b))) (Fz (.int (ln fr a b))) c6) := fun hx => by
        refine hK _ _ _ (best_keep hb fun _ => ?_)
        obtain ⟨L, N, a', b', e, e2⟩ := hx
        subst e
        obtain ⟨b1, b2, b3, b4, _⟩ := hb
        refine ⟨_, _, _, _, rfl, ?_⟩
        rw [b3, b4] at e2
        rcases hord _ _ b1 with z | ⟨z1, z2⟩
        · by_cases hlt : ld (rowsOf fr js) a b * ln fr a' b' < ld (rowsOf fr js) a' b' * ln fr a b
          · exact .inl hlt
          · exact .inr ⟨by omega, .inl z⟩
        · by_cases hlt : ld (rowsOf fr js) a b * ln fr a' b' < ld (rowsOf fr js) a' b' * ln fr a b
          · exact .inl hlt
          · exact .inr ⟨by omega, .inr ⟨z1, by omega⟩⟩
      unfold B_Scan_densest_1
      cases best with
      | none =>
        have eb : bstD none = .non := rfl
        unfold dsE at *
        rw [eb] at *
        walk_at "pm"
        exact upd (by intro _ _ _ _ z; cases z)
      | some q =>
        obtain ⟨L, N, a', b'⟩ := q
        have eb : bstD (some (L, N, a', b')) = .tup [.int L, .int N, .int a', .int b'] := rfl
        obtain ⟨b1, b2, b3, b4, b5⟩ := id hb
        unfold dsE at *
        rw [eb] at *
        walk_at "pm"
        refine ⟨Bs.mulOk (hld a b) (by rw [b4]; exact hln _ _) (by omega), Bs.mulOk (by rw [b3]; exact hld _ _) (hln a b) (by omega), ?_⟩
        by_cases hc : L * ln fr a b < ld (rowsOf fr js) a b * N
        · rw [if_pos hc]
          exact upd (by intro _ _ _ _ z; cases z; exact hc)
        · rw [if_neg hc]
          exact kp ⟨_, _, _, _, rfl, hc⟩
    · rw [if_neg (by omega)]
      exact hK _ _ _ (best_keep hb fun ho => absurd (hl1.mp ho) hl)
  unfold B_Scan_densest_4 dsE
  walk_at "pm"
  by_cases hab : a < b
  · rw [if_pos hab]
    refine ⟨fr, rowsOf fr js, _, a, b, rfl, .inr rfl, hrl, ?_⟩
    refine Eq.mp ?_ (rest (ld (rowsOf fr js) a b) Iff.rfl (fun _ => rfl))
    unfold dsE
    walk_at "pm"
  · rw [if_neg hab]
    refine Eq.mp ?_ (rest 0 ⟨fun ho => absurd (ok_lt h ho) hab, fun z => absurd z (by decide)⟩ (fun z => absurd z (by decide)))
    unfold dsE
    walk_at "pm"
theorem dens_in {m : Nat} {a : Int} {P : Int → Int → Prop} {best : Option (Int × Int × Int × Int)} {EE : Ep} {c3 c4 c5 c6 : Ct} (hfl : fr.length ≤ 10000) (hjl : js.length < 64) (h : RsOk fr js) (hm : m ≤ 400000) (hld : ∀ a b, Bs m (ld (rowsOf fr js) a b)) (hln : ∀ a b, Bs m (ln fr a b))
    (hb : BestOf (rowsOf fr js) fr P best) (hord : ∀ x y, P x y → x < a) (bs : List Int) (hbs : bs.Pairwise (fun x y => y < x)) (hK : ∀ best c3 c4 c5, BestOf (rowsOf fr js) fr (fun x y => P x y ∨ (x = a ∧ y ∈ bs)) best → EE.nx (dsE fr js best (Fz (.int a)) c3 c4 c5 c6)) :
    forK (.nm 3) B_Scan_densest_4 (bs.map .int) (dsE fr js best (Fz (.int a)) c3 c4 c5 c6) EE := by
  refine for_ind (f := D.int) (fun r2 ρ => ∃ (pre : List Int) (best : Option (Int × Int × Int × Int)) (c3 c4 c5 : Ct), ρ = dsE fr js best (Fz (.int a)) c3 c4 c5 c6 ∧ bs = pre ++ r2 ∧ BestOf (rowsOf fr js) fr (fun x y => P x y ∨ (x = a ∧ y ∈ pre)) best) ?_ ?_ bs _ ⟨[], best, c3, c4, c5, rfl, rfl, hb.cg fun x y => by simp⟩
  · rintro b r2 ρ K ⟨pre, best, c3, c4, c5, rfl, hpre, hb⟩ hK
    have hlt : ∀ y ∈ pre, b < y := fun y hy => by
      rw [hpre, List.pairwise_append] at hbs
      exact hbs.2.2 y hy b (by simp)
    unfold dsE
    walk_at "pm"
    refine dens_body hfl hjl h hm hld hln hb (fun x y hxy => ?_) fun best c4 c5 hb' => hK _ ⟨pre ++ [b], best, _, c4, c5, rfl, by rw [hpre, List.append_assoc]; rfl, hb'.cg fun x y => ?_⟩
    · rcases hxy with hxy | ⟨e, hy⟩
      · exact .inl (hord x y hxy)
      · exact .inr ⟨e, hlt y hy⟩
    · simp only [List.mem_append, List.mem_singleton]
      constructor
      · rintro ((q | ⟨q1, q2⟩) | ⟨q1, q2⟩)
        · exact .inl q
        · exact .inr ⟨q1, .inl q2⟩
        · exact .inr ⟨q1, .inr q2⟩
      · rintro (q | ⟨q1, q2 | q2⟩)
        · exact .inl (.inl q)
        · exact .inl (.inr ⟨q1, q2⟩)
        · exact .inr ⟨q1, q2⟩
  · rintro ρ ⟨pre, best, c3, c4, c5, rfl, hpre, hb⟩
    rw [List.append_nil] at hpre
    subst hpre
    exact hK _ _ _ _ hb
theorem dens_out {m : Nat} {EE : Ep} {c2 c3 c4 c5 c6 : Ct} (hfl : fr.length ≤ 10000) (hjl : js.length < 64) (h : RsOk fr js) (hm : m ≤ 400000) (hld : ∀ a b, Bs m (ld (rowsOf fr js) a b)) (hln : ∀ a b, Bs m (ln fr a b))
    (hK : ∀ best c2 c3 c4 c5, BestOf (rowsOf fr js) fr (Pairs (rowsOf fr js)) best → EE.nx (dsE fr js best c2 c3 c4 c5 c6)) :
    forK (.nm 2) B_Scan_densest_5 ((srtU ((rowsOf fr js).map (·.f))).map .int) (dsE fr js none c2 c3 c4 c5 c6) EE := by
  have hbs : ((srtU ((rowsOf fr js).map (·.l))).reverse).Pairwise (fun x y => y < x) := List.pairwise_reverse.mpr srtU_ord
  have hrl : (rowsOf fr js).length < 64 := by unfold rowsOf; rw [List.length_map]; omega
  have has : (srtU ((rowsOf fr js).map (·.f))).Pairwise (fun x y => x < y) := srtU_ord
  have memA : ∀ x, x ∈ srtU ((rowsOf fr js).map (·.f)) ↔ ∃ r ∈ rowsOf fr js, r.f = x := fun x => by rw [srtU_mem, List.mem_map]
  have memB : ∀ x, x ∈ (srtU ((rowsOf fr js).map (·.l))).reverse ↔ ∃ r ∈ rowsOf fr js, r.l = x := fun x => by rw [List.mem_reverse, srtU_mem, List.mem_map]
  generalize srtU ((rowsOf fr js).map (·.f)) = as at *
  refine for_ind (f := D.int) (fun r2 ρ => ∃ (pre : List Int) (best : Option (Int × Int × Int × Int)) (c2 c3 c4 c5 : Ct), ρ = dsE fr js best c2 c3 c4 c5 c6 ∧ as = pre ++ r2 ∧ BestOf (rowsOf fr js) fr (fun x y => x ∈ pre ∧ ∃ r ∈ rowsOf fr js, r.l = y) best) ?_ ?_ as _ ⟨[], none, c2, c3, c4, c5, rfl, rfl, fun a b z => by simp at z⟩
  · rintro a r2 ρ K ⟨pre, best, c2, c3, c4, c5, rfl, hpre, hb⟩ hK
    have hlt : ∀ y ∈ pre, y < a := fun y hy => by
      rw [hpre, List.pairwise_append] at has
      exact has.2.2 y hy a (by simp)
    unfold B_Scan_densest_5 dsE
    walk_at "pm"
    rw [col1]
    walk_at "pm"
    refine ⟨by rw [List.length_map]; exact hrl, ?_⟩
    rw [← List.map_reverse]
    refine dens_in hfl hjl h hm hld hln hb (fun x y hxy => hlt x hxy.1) _ hbs fun best c3 c4 c5 hb' => hK _ ⟨pre ++ [a], best, _, c3, c4, c5, rfl, by rw [hpre, List.append_assoc]; rfl, hb'.cg fun x y => ?_⟩
    simp only [List.mem_append, List.mem_singleton, memB]
    constructor
    · rintro (⟨q1, q2⟩ | ⟨q1, q2⟩)
      · exact ⟨.inl q1, q2⟩
      · exact ⟨.inr q1, q2⟩
    · rintro ⟨q1 | q1, q2⟩
      · exact .inl ⟨q1, q2⟩
      · exact .inr ⟨q1, q2⟩
  · rintro ρ ⟨pre, best, c2, c3, c4, c5, rfl, hpre, hb⟩
    rw [List.append_nil] at hpre
    subst hpre
    exact hK _ _ _ _ _ (hb.cg fun x y => by rw [memA]; rfl)
theorem sp_Scan_densest (cs : List Ct) (R0 : Ct → List Ct → Prop) (E0 : Exn → List Ct → Prop) : φ_Scan_densest cs R0 E0 → fnOf 6 [0] T_Scan_densest cs R0 E0 := by
  rintro ⟨m, fr, js, rc, rfl, hrc, hfl, hjl, h, hm, hld, hln, hR⟩
  rw [fnOf_eq]
  refine ⟨ow0 rfl, ?_⟩
  have hrl : (rowsOf fr js).length < 64 := by unfold rowsOf; rw [List.length_map]; omega
  unfold T_Scan_densest B_Scan_densest_6
  rcases hrc with rfl | rfl
  all_goals
    walk_at "pm"
    rw [col0]
    walk_at "pm"
    refine ⟨by rw [List.length_map]; exact hrl, ?_⟩
    refine dens_out (c2 := .no) (c3 := .no) (c4 := .no) (c5 := .no) (c6 := .no) hfl hjl h hm hld hln fun best c2 c3 c4 c5 hb => ?_
    unfold dsE
    walk_at "pm"
    exact hR best hb
end
end Pm

namespace Pm
open PySem PySem.Spec PyProof.Rows L2
local macro_rules | `(tactic| walk_at "pm") => `(tactic| simp only [e_fd, fd_ob, fd_fz, fd_ow, fd_dk, lk_hit, lk_miss, lk_nil, pt_hit, pt_miss, pt_nil, nA_alf, vw_alf, af_ob, fcD_fz, fcD_ow, fcD_dk, cf_alf, cf_al, cf_va, afF_ob, alF_at, fzC_alf, afZ_ob, afZ_fz, afZ_ow, stC_alf, e_sFd, sfd_at, e_me, me_ob, oN_none, isOw_ob, e_mk, hd_cons, e_muR, muR1_ow, muR2_ow, isPl_al, isPl_alf, setR_al, setR_alf, setRf_ob, e_dn, e_dkK, dk1_dk, dk2_k, kD_int, kD_str, e_dg, e_di, e_diT, e_dp, e_keyK, e_dcc, dc_nil, dc_cons, e_srt, seqD_l, seqD_t, e_rev, f_lcm, c_inT, c_ninT, nq_1, nq_2, nq_3, nq_4, nq_5, nq_6, nq_7, Bool.false_bne, Bool.true_bne, e_lcO, e_mth, e_mth0, tyK_lst, tyK_str, tyD_lst, tyD_str, f_index, e_iEnum, enK_one, walkE_lst, walkE_tup, e_cSort, srtK_lst, f_maxL, f_minL, shp_rqs, any_rq, sz0, sz1, sz2, sz3, sz4, sz5, sz6, sz7, sz8, ix_pt0, ix_pt1, true_false_F, c_eqB, c_neB, sq_nx, ix_rq0, ix_rq1, c_eqR, c_neR, c_eqR0, c_neR0, isNon_rq, shp_rqT, clsD_rq_tuple, f_len_rq, e_iAny, walkA_lst, walkA_tup, e_oNone, e_oSome, oiK_int, e_slice, sl_lstD, sl_tupD, sl_strD, intK_int, e_chG, e_chT_le_lt, e_chT_lt_le, e_chT_le_le, e_chT_lt_lt, e_ch_le_lt, e_ch_lt_le, e_ch_le_le, e_ch_lt_lt, f_sum, f_all, f_any, e_mu, muN_ow, muK_ow, f_app, f_ext, f_pop, f_ins, sq_rt, sq_bk, sq_ct, sq_ex, lp_nx, lp_ct, lp_bk, lp_rt, lp_ex, fn_nx, fn_rt, fn_ex, oD_some, oD_none, e_nm, nm_fz, nm_ow, nm_dk, e_nmC, nmc_fz, e_K, vw_fz, vw_ow, vw_al, alV_fz, alV_ow, nA_va, nA_al, fzC_fz, fzC_ow, fzC_al, alZ_fz, alZ_ow, stC_va, stC_al, fzL_nil, fzL_cons, e_fzK, b_addI, b_addS, b_addL, b_addT, b_sub, b_mul, b_div, b_mod, b_pow, c_lt, c_le, c_gt, c_ge, c_eqS, c_neS, c_eqI, c_neI, c_eqT, c_neT, c_eqL, c_neL, c_is, c_isn, c_in, c_nin, isNon_non, isNon_int, isNon_str, isNon_tup, isNon_lst, isNon_bl, shp_intT, shp_nonT, shp_blT, shp_ratT, eqD_rat, e_bin, e_cmp, e_cmpT, e_tru, tru_bl, tru_int, tru_non, tru_lst, tru_tup, tru_str, trs_bl, trs_int, trs_non, trs_lst, trs_tup, trs_str, e_and, e_or, e_not, e_yes, isB_bl, e_andV, e_orV, e_notV, e_ifE, e_neg, neg_int, e_aNil, e_aOne, e_aCons, e_tup, e_lst, e_ix, ix_tupD, ix_lstD, ix_strD, e_isi, e_cb, e_cD1, e_cD2, e_list, list_tup, list_lst, list_scr, e_tuple, tup_tup, tup_lst, f_len_tup, f_len_lst, f_len_scr, f_len_str, f_int, f_abs, f_gcd, f_max, f_min, e_call, e_callK, fzM_nil, fzM_f, fzM_t, isOw_fz, isOw_ow, isOw_no, isOw_dk, brs_nil, brs_l, brs_r, cts_nil, cts_l, cts_r, wb_nil, wb_l, wb_r, outs_nil, outs_cons, ret_va, ret_al, e_sNil, e_seq, e_pass, e_brk, e_cnt, e_never, e_ret, e_retN, e_exp, e_if, e_set, e_aug, aug_int, augK_int, e_par, par_2, e_asg, e_sub, subN_ow, subK_ow, e_for, for_nil, for_cons, tg_nm, tg_tp, tgs_nil, tgs_cons, e_rng1, e_rng2, rngL1_1, rngL2_2, rngK1_int, rngK2_int, e_iLst, e_iTup, walkL_lst, walkT_tup, e_lc, lc_nil, lc_cons, wipeE_nil, wipeE_cons, clsD_int_int, clsD_int_bool, clsD_int_str, clsD_int_tuple, clsD_str_str, clsD_str_tuple, clsD_str_int, clsD_tup_tuple, clsD_tup_str, clsD_tup_int, clsD_non_tuple, clsD_non_str, clsD_non_int, clsD_bl_bool, clsD_bl_int, clsD_bl_tuple, atI_0, atI_1, atI_2, atI_3, atI_4, ixN5_0, ixN5_1, ixN5_2, ixN5_3, ixN5_4, List.map_cons, List.map_nil, List.cons_append, List.nil_append, List.append_nil, List.replicate, List.getElem?_cons_zero, List.getElem?_cons_succ, List.getD_cons_zero, List.getD_cons_succ, List.set_cons_zero, List.set_cons_succ, Option.bind_some, Option.bind_none, List.length_cons, List.length_nil, if_true, if_false, Bool.false_eq_true, Bool.not_true, Bool.not_false, Bool.not_eq_true', decide_eq_true_eq, decide_eq_false_iff_not, and_true, true_and, List.mem_cons, List.not_mem_nil, or_false, forall_eq, false_imp_iff, implies_true, List.nodup_nil, List.nodup_cons, not_false_eq_true, List.isEmpty_cons, List.isEmpty_nil, List.tail_cons, List.tail_nil])
/-! ## rounds_with -/
def toQ (j : Job) : Jq := ⟨j.nm, j.c, j.d, (j.w : Rat)⟩
def T_with_ratios : TSp :=
  (sRet (tLc' (iAny (tNm 0)) (.tp [.nm 1, .nm 2, .nm 3, .nm 4]) tYes' (tTup (tACons (tNmC 1) (tACons (tNmC 2) (tACons (tNmC 3) (tAOne (tCall φ_ratio [false] [(.int 1)] (tAOne (tNmC 4)))))))) [1, 2, 3, 4]))
def φ_with_ratios : Fn := fun cs R0 _ => ∃ (js : List Job), (cs = [Fz (.tup (js.map jbD))] ∨ cs = [Fz (.lst (js.map jbD))]) ∧ js.length ≤ 1000 ∧ R0 (Wl ((js.map toQ).map jqD)) [.no]
theorem sp_with_ratios (cs : List Ct) (R0 : Ct → List Ct → Prop) (E0 : Exn → List Ct → Prop) : φ_with_ratios cs R0 E0 → fnOf 4 [] T_with_ratios cs R0 E0 := by
  rintro ⟨js, hc, hl, h⟩
  rw [fnOf_eq]
  have main : ∀ c0, (c0 = Fz (.tup (js.map jbD)) ∨ c0 = Fz (.lst (js.map jbD))) → T_with_ratios [c0, .no, .no, .no, .no] (fnE [c0] R0 E0) := by
    intro c0 hc0
    unfold T_with_ratios
    rcases hc0 with rfl | rfl
    all_goals
      walk_at "pm"
      refine lc_pure (f := jbD) (fun j : Job => [jqD (toQ j)]) _ (fun _ => True) ?_ (fun r => by simp) js [] (fun _ _ => trivial) (line_small (by rw [List.length_nil]; omega)) ?_
      · intro j acc K _ hacc hK
        have er : jbD j = .tup [.str j.nm, .int j.c, .int j.d, .int j.w] := rfl
        rw [er]
        walk_at "pm"
        refine ⟨1, j.w, 1, rfl, by decide, by decide, by decide, ?_⟩
        have e1 : ((j.w : Rat) / ((1 : Int) : Rat)) = (j.w : Rat) := by
          have : ((1 : Int) : Rat) = 1 := rfl
          rw [this]; grind
        rw [e1]
        walk_at "pm"
        exact ⟨hacc, hK⟩
      · walk_at "pm"
        rw [flat1]
        rw [List.map_map] at h
        exact h
  rcases hc with rfl | rfl
  · exact ⟨noOw _ rfl, main _ (.inl rfl)⟩
  · exact ⟨noOw _ rfl, main _ (.inr rfl)⟩
def rdD (S : Nat) (r : Rd) : D := .tup [rq ((r.L : Rat) / ((r.N * (S : Int) : Int) : Rat)), .tup (r.nms.map .str), .tup (r.tms.map ivD), .int r.a, .int r.b]
def B_rounds_with_1 : TSp :=
  (sSeq (sSet 2 (tLc' (iAny (tNm 2)) (.nm 15) (tCmpT .NotIn (tIx (tNmC 15) (tK (.int 0))) (tNm 10)) (tNmC 15) [15]))
    (sSet 4 (tCall φ_taken_away [false, false, false] [] (tACons (tNm 4) (tACons (tNm 8) (tAOne (tNm 9)))))))
def B_rounds_with_2 : TSp :=
  (sSeq (sExp (tMu 3 fApp (tAOne (tTup (tACons (tCall φ_ratio [false, false] [] (tACons (tNm 6) (tAOne (tBin (opB .Mult) (tNm 7) (tNm 1))))) (tACons (tNm 10) (tACons (tCb cTuple (tAOne (tCall φ_free_part [false, false, false] [] (tACons (tNm 4) (tACons (tNm 8) (tAOne (tNm 9))))))) (tACons (tNm 8) (tAOne (tNm 9))))))))))
    B_rounds_with_1)
def B_rounds_with_3 : TSp :=
  (sSeq (sSet 10 (tCb cTuple (tAOne (tLc' (iAny (tFd "Scan" 5 "rows")) (.tp [.nm 16, .nm 17, .nm 11, .nm 14]) (tAnd (tCmpT .LtE (tNm 8) (tNmC 16)) (tCmpT .LtE (tNmC 17) (tNm 9))) (tNmC 11) [16, 17, 11, 14]))))
    B_rounds_with_2)
def B_rounds_with_4 : TSp :=
  (sSeq (sAsg (.tp [.nm 6, .nm 7, .nm 8, .nm 9]) (tMe "Scan" 5 "densest" φ_Scan_densest [] [] tANil))
    B_rounds_with_3)
def B_rounds_with_5 : TSp :=
  (sSeq (sSet 5 (tMk "Scan" 2 φ_Scan___init__ [] (tACons (tNm 2) (tAOne (tNm 4)))))
    B_rounds_with_4)
def B_rounds_with_6 : TSp :=
  (sSeq (sWhile (tTru (tNm 2)) B_rounds_with_5)
    (sRet (tNm 3)))
def B_rounds_with_7 : TSp :=
  (sSeq (sIf (tTru (tNm 2)) (sSet 4 (tLst (tAOne (tTup (tACons (tCb (cD1 fMinL) (tAOne (tLc' (iAny (tNm 2)) (.nm 15) tYes' (tIx (tNmC 15) (tK (.int 1))) [15]))) (tAOne (tCb (cD1 fMaxL) (tAOne (tLc' (iAny (tNm 2)) (.nm 15) tYes' (tIx (tNmC 15) (tK (.int 2))) [15]))))))))) sNil)
    B_rounds_with_6)
def B_rounds_with_8 : TSp :=
  (sSeq (sSet 4 (tLst tANil))
    B_rounds_with_7)
def B_rounds_with_9 : TSp :=
  (sSeq (sSet 3 (tLst tANil))
    B_rounds_with_8)
def B_rounds_with_10 : TSp :=
  (sSeq (sSet 2 (tLc' (iAny (tNm 0)) (.tp [.nm 11, .nm 12, .nm 13, .nm 14]) tYes' (tTup (tACons (tNmC 11) (tACons (tNmC 12) (tACons (tNmC 13) (tAOne (tBin (opB .Mult) (tIx (tNmC 14) (tK (.int 0))) (tBin (opB .FloorDiv) (tNm 1) (tIx (tNmC 14) (tK (.int 1)))))))))) [11, 12, 13, 14]))
    B_rounds_with_9)
def B_rounds_with_11 : TSp :=
  (sSeq (sFor (iAny (tNm 0)) (.nm 15) (sSet 1 (tCb (cD2 fLcm) (tACons (tNm 1) (tAOne (tIx (tIx (tNmC 15) (tK (.int 3))) (tK (.int 1))))))))
    B_rounds_with_10)
def T_rounds_with : TSp :=
  (sSeq (sSet 1 (tK (.int 1)))
    B_rounds_with_11)
/-- what the jobs must be -/
structure QsOk (K : Nat) (qs : List Jq) : Prop where
  few : qs.length ≤ 13
  k1 : 14 ≤ K
  k2 : K ≤ 4000
  job : ∀ q ∈ qs, 0 ≤ q.c ∧ q.c < q.d ∧ 0 < q.w ∧ Bs K q.d ∧ Bs K q.w.num ∧ PyData.strOk q.nm = true
  sc : Bs K (scl qs : Int)
def φ_rounds_with : Fn := fun cs R0 _ => ∃ (K : Nat) (qs : List Jq), (cs = [Fz (.tup (qs.map jqD))] ∨ cs = [Fz (.lst (qs.map jqD))]) ∧ QsOk K qs ∧ ∀ rs, Rnds (qs.map (toJ (scl qs))) (frOf (qs.map (toJ (scl qs)))) rs → R0 (Wl (rs.map (rdD (scl qs)))) [.no]
section
variable {K : Nat} {qs : List Jq}
theorem QsOk.den (h : QsOk K qs) {q : Jq} (hq : q ∈ qs) : Bs K (q.w.den : Int) := by
  have := Nat.le_of_dvd (scl_pos qs) (scl_dvd hq)
  exact h.sc.nn (by omega) (by omega)
theorem QsOk.pre (h : QsOk K qs) {pre r : List Jq} (e : qs = pre ++ r) : Bs K (scl pre : Int) := by
  have := Nat.le_of_dvd (scl_pos qs) (show scl pre ∣ scl qs by rw [e]; exact scl_dvd_app)
  exact h.sc.nn (by omega) (by omega)
theorem QsOk.iw (h : QsOk K qs) {q : Jq} (hq : q ∈ qs) : Bs (2 * K) (iw (scl qs) q) := by
  unfold Pm.iw
  have h1 := (h.job q hq).2.2.2.2.1
  have h2 : Bs K ((scl qs : Int) / (q.w.den : Int)) := by
    refine h.sc.nn (Int.ediv_nonneg (by omega) (by omega)) (Int.ediv_le_self _ (by omega))
  have := h1.mul h2
  rw [show K + K = 2 * K by omega] at this
  exact this
theorem log_lt {n : Nat} {i : Int} (h : Bs n i) (hn : n ≤ 9000) (h0 : 0 < n) : i.natAbs.log2 < 9000 := by
  rcases h.log with z | z
  · omega
  · subst z; decide
theorem QsOk.jobs (h : QsOk K qs) : ∀ j ∈ qs.map (toJ (scl qs)), 0 ≤ j.c ∧ j.c < j.d ∧ 0 < j.w := fun j hj => by
  obtain ⟨q, hq, rfl⟩ := List.mem_map.mp hj
  obtain ⟨a, b, c, _⟩ := h.job q hq
  exact ⟨a, b, iw_pos (scl_dvd hq) (scl_pos qs) c⟩
theorem QsOk.tot (h : QsOk K qs) : Bs (2 * K + 4) (wtot (qs.map (toJ (scl qs)))) := by
  have : ∀ l : List Jq, (∀ q ∈ l, Bs (2 * K) (Pm.iw (scl qs) q)) → (wtot (l.map (toJ (scl qs)))).natAbs ≤ l.length * 2 ^ (2 * K) := by
    intro l
    induction l with
    | nil => intro _; simp [wtot]
    | cons q l ih =>
      intro hl
      have h1 := ih fun x hx => hl x (by simp [hx])
      have h2 := hl q (by simp)
      unfold wtot at *
      rw [List.map_cons, List.map_cons, List.sum_cons, List.length_cons]
      have h3 : (toJ (scl qs) q).w = Pm.iw (scl qs) q := rfl
      rw [h3]
      unfold Bs at h2
      have := Int.natAbs_add_le (Pm.iw (scl qs) q) (((l.map (toJ (scl qs))).map (·.w)).sum)
      have e : (l.length + 1) * 2 ^ (2 * K) = l.length * 2 ^ (2 * K) + 2 ^ (2 * K) := by rw [Nat.add_mul, Nat.one_mul]
      omega
  have h1 := this qs fun q hq => h.iw hq
  unfold Bs
  have h2 : qs.length * 2 ^ (2 * K) ≤ 13 * 2 ^ (2 * K) := Nat.mul_le_mul_right _ h.few
  have h3 : 2 ^ (2 * K + 4) = 16 * 2 ^ (2 * K) := by rw [Nat.pow_add]; omega
  have : 0 < 2 ^ (2 * K) := Nat.pow_pos (by omega)
  omega
end
theorem any_outR {nms : List Str} {j : Job} : (!decide (j.nm ∈ nms)) = outR nms j := rfl
abbrev rwE (c0 : Ct) (S : Nat) (c2 : Ct) (found : List D) (c4 c5 c6 c7 c8 c9 c10 c11 c12 c13 c14 c15 c16 c17 : Ct) : En := [c0, Fz (.int S), c2, Wl found, c4, c5, c6, c7, c8, c9, c10, c11, c12, c13, c14, c15, c16, c17]
def liC (l : List D) (c : Ct) : Prop := c = Wl l ∨ c = Fz (.lst l)
def RwInv (K S : Nat) (qs : List Jq) (c0 : Ct) (m : Nat) (ρ : En) : Prop := ∃ (js : List Job) (fr : List Iv) (done : List Rd) (c2 c4 c5 c6 c7 c8 c9 c10 c11 c12 c13 c14 c15 c16 c17 : Ct), ρ = rwE c0 S c2 (done.map (rdD S)) c4 c5 c6 c7 c8 c9 c10 c11 c12 c13 c14 c15 c16 c17 ∧ liC (js.map jbD) c2 ∧ liC (fr.map ivD) c4 ∧ m = js.length ∧ RsOk fr js ∧
  (∀ rs, Rnds js fr rs → Rnds (qs.map (toJ S)) (frOf (qs.map (toJ S))) (done ++ rs)) ∧ done.length + js.length ≤ 13 ∧ fr.length ≤ 2 ^ done.length ∧ (∀ p ∈ fr, p.2 ≤ 2 ^ K) ∧ wtot js ≤ wtot (qs.map (toJ S)) ∧ (∀ j ∈ js, PyData.strOk j.nm = true)
theorem nms_map {rs : List Row} {a b : Int} : (rs.flatMap fun r => if (decide (a ≤ r.f) && decide (r.l ≤ b)) = true then [D.str r.nm] else []) = ((rs.filter (inR a b)).map (·.nm)).map .str := by
  induction rs with
  | nil => rfl
  | cons r rs ih =>
    rw [List.flatMap_cons, List.filter_cons, ih]
    unfold inR
    by_cases h : a ≤ r.f ∧ r.l ≤ b
    · rw [if_pos (by simp [h.1, h.2]), if_pos (decide_eq_true h)]; rfl
    · rw [if_neg (by intro z; simp at z; exact h z), if_neg (by simpa using h)]; rfl
theorem out_map {js : List Job} {nms : List Str} : (js.flatMap fun j => if (!decide (j.nm ∈ nms)) = true then [jbD j] else []) = (js.filter (outR nms)).map jbD := by
  induction js with
  | nil => rfl
  | cons j js ih =>
    rw [List.flatMap_cons, List.filter_cons, ih]
    unfold outR
    split <;> rfl
section
variable {K S : Nat} {qs : List Jq} {c0 : Ct} {js : List Job} {fr : List Iv} {done : List Rd} {L N a b : Int} {EE : Ep}
/-- the end of a turn -/
theorem rw_tail {c2 c4 c5 c11 c12 c13 c14 c15 c16 c17 : Ct} (hc2 : liC (js.map jbD) c2) (hc4 : liC (fr.map ivD) c4) (hok : RsOk fr js) (hb : BestOf (rowsOf fr js) fr (Pairs (rowsOf fr js)) (some (L, N, a, b)))
    (hrel : ∀ rs, Rnds js fr rs → Rnds (qs.map (toJ S)) (frOf (qs.map (toJ S))) (done ++ rs)) (hcnt : done.length + js.length ≤ 13) (hfl : fr.length ≤ 2 ^ done.length) (hfb : ∀ p ∈ fr, p.2 ≤ 2 ^ K) (hwt : wtot js ≤ wtot (qs.map (toJ S))) (hstr : ∀ j ∈ js, PyData.strOk j.nm = true) (hne : js ≠ []) :
    B_rounds_with_1 (rwE c0 S c2 ((done ++ [Rd.mk L N a b (((rowsOf fr js).filter (inR a b)).map (·.nm)) (fp fr a b)]).map (rdD S)) c4 c5 (Fz (.int L)) (Fz (.int N)) (Fz (.int a)) (Fz (.int b)) (Fz (.tup ((((rowsOf fr js).filter (inR a b)).map (·.nm)).map .str))) c11 c12 c13 c14 c15 c16 c17) (EE.lp fun ρ'' => ∃ m', m' < js.length ∧ RwInv K S qs c0 m' ρ'') := by
  obtain ⟨jw, hjw⟩ := List.exists_mem_of_ne_nil js hne
  have hfne : fr ≠ [] := fun z => by
    obtain ⟨t, ⟨p, hp, _⟩, _⟩ := hok.win jw hjw
    rw [z] at hp; cases hp
  have hdl : (2 : Nat) ^ done.length ≤ 2 ^ 13 := Nat.pow_le_pow_right (by omega) (by omega)
  have hfl2 : fr.length ≤ 10000 := by
    have : (2 : Nat) ^ 13 = 8192 := by decide
    omega
  have hab := best_lt hok hb
  have hless := round_less hb
  have hnext := hok.next hb
  generalize hnm : ((rowsOf fr js).filter (inR a b)).map (·.nm) = nms at *
  have fin : ∀ c2' c4' c5 c6 c7 c8 c9 c10 c11 c12 c13 c14 c15 c16 c17, liC ((js.filter (outR nms)).map jbD) c2' → liC ((ta fr a b).map ivD) c4' → ∃ m', m' < js.length ∧ RwInv K S qs c0 m' (rwE c0 S c2' ((done ++ [Rd.mk L N a b nms (fp fr a b)]).map (rdD S)) c4' c5 c6 c7 c8 c9 c10 c11 c12 c13 c14 c15 c16 c17) := by
    intro c2' c4' c5 c6 c7 c8 c9 c10 c11 c12 c13 c14 c15 c16 c17 h2 h4
    refine ⟨_, hless, js.filter (outR nms), ta fr a b, done ++ [Rd.mk L N a b nms (fp fr a b)], c2', c4', c5, c6, c7, c8, c9, c10, c11, c12, c13, c14, c15, c16, c17, rfl, h2, h4, rfl, hnext, fun rs hrs => ?_, ?_, ?_, fr_bd hfb, Int.le_trans (wtot_filter hok.pos) hwt, fun j hj => hstr j (List.mem_filter.mp hj).1⟩
    · rw [List.append_assoc]
      refine hrel _ ?_
      have := Rnds.cons hne hb (by rw [hnm]; exact hrs)
      rw [hnm] at this
      exact this
    · rw [List.length_append, List.length_singleton]; omega
    · rw [List.length_append, List.length_singleton, Nat.pow_succ]
      unfold ta
      rw [List.length_append]
      have h1 := fp_len (fr := fr) (b := 0) (e := a)
      have h2 := fp_len (fr := fr) (b := b) (e := lastE fr)
      omega
  have comp : ∀ (c4 c11 c12 c13 c14 c15 c16 c17 : Ct) (EX : Exn → En → Prop) (RR : R → En → Prop), RR (.va (Wl ((js.filter (outR nms)).map jbD))) (rwE c0 S (Fz (.lst (js.map jbD))) ((done ++ [Rd.mk L N a b nms (fp fr a b)]).map (rdD S)) c4 c5 (Fz (.int L)) (Fz (.int N)) (Fz (.int a)) (Fz (.int b)) (Fz (.tup (nms.map .str))) c11 c12 c13 c14 .no c16 c17) →
      lcK (.nm 15) (tCmpT .NotIn (tIx (tNmC 15) (tK (.int 0))) (tNm 10)) (tNmC 15) [15] EX RR (js.map jbD) [] (rwE c0 S (Fz (.lst (js.map jbD))) ((done ++ [Rd.mk L N a b nms (fp fr a b)]).map (rdD S)) c4 c5 (Fz (.int L)) (Fz (.int N)) (Fz (.int a)) (Fz (.int b)) (Fz (.tup (nms.map .str))) c11 c12 c13 c14 .no c16 c17) := by
    intro c4 c11 c12 c13 c14 c15 c16 c17 EX RR hRR
    refine lc_pure (f := jbD) (fun j : Job => if (!decide (j.nm ∈ nms)) = true then [jbD j] else []) _ (fun _ => True) ?_ (fun r => by split <;> simp) js [] (fun _ _ => trivial) (line_small (by rw [List.length_nil]; omega)) ?_
    · intro j acc K' _ hacc hK
      have er : jbD j = .tup [.str j.nm, .int j.c, .int j.d, .int j.w] := rfl
      unfold rwE at hK ⊢
      rw [er] at hK ⊢
      walk_at "pm"
      by_cases h1 : j.nm ∈ nms
      · rw [decide_eq_true h1] at hK
        rw [if_neg (by decide)] at hK
        rw [List.append_nil] at hK
        rw [if_neg (fun z => z h1)]
        exact hK
      · rw [decide_eq_false h1] at hK
        rw [if_pos (by decide)] at hK
        rw [if_pos h1]
        exact ⟨hacc, hK⟩
    · rw [out_map, List.nil_append]; exact hRR
  unfold B_rounds_with_1
  unfold rwE at comp fin ⊢
  rcases hc2 with rfl | rfl <;> rcases hc4 with rfl | rfl
  all_goals
    walk_at "pm"
    refine comp _ _ _ _ _ .no _ _ _ _ ?_
    walk_at "pm"
    refine ⟨fr, _, _, rfl, hfne, hfl2, ?_⟩
    walk_at "pm"
    exact fin _ _ _ _ _ _ _ _ _ _ _ _ _ _ _ (.inl rfl) (.inl rfl)
end
theorem sp_rounds_with (cs : List Ct) (R0 : Ct → List Ct → Prop) (E0 : Exn → List Ct → Prop) : φ_rounds_with cs R0 E0 → fnOf 17 [] T_rounds_with cs R0 E0 := by
  rintro ⟨K, qs, hc, hq, hR⟩
  rw [fnOf_eq]
  have hjb := hq.jobs
  have h0 := frOf_ok hjb
  have htot := hq.tot
  have hpos := scl_pos qs
  have hfew := hq.few
  have hk1 := hq.k1
  have hk2 := hq.k2
  have eq0 : ∀ q : Jq, jqD q = .tup [.str q.nm, .int q.c, .int q.d, rq q.w] := fun _ => rfl
  have loop1 : ∀ (c0 : Ct) (EE : Ep), (∀ c15, EE.nx [c0, Fz (.int (scl qs)), .no, .no, .no, .no, .no, .no, .no, .no, .no, .no, .no, .no, .no, c15, .no, .no]) →
      forK (.nm 15) (sSet 1 (tCb (cD2 fLcm) (tACons (tNm 1) (tAOne (tIx (tIx (tNmC 15) (tK (.int 3))) (tK (.int 1))))))) (qs.map jqD) [c0, Fz (.int 1), .no, .no, .no, .no, .no, .no, .no, .no, .no, .no, .no, .no, .no, .no, .no, .no] EE := by
    intro c0 EE hEE
    refine for_ind (f := jqD) (fun r2 ρ => ∃ (pre : List Jq) (c15 : Ct), ρ = [c0, Fz (.int (scl pre : Nat)), .no, .no, .no, .no, .no, .no, .no, .no, .no, .no, .no, .no, .no, c15, .no, .no] ∧ qs = pre ++ r2) ?_ ?_ qs _ ⟨[], .no, rfl, rfl⟩
    · rintro q r2 ρ K' ⟨pre, c15, rfl, hpre⟩ hK
      have hm : q ∈ qs := by rw [hpre]; simp
      rw [eq0]
      walk_at "pm"
      refine ⟨⟨log_lt (hq.pre hpre) (by omega) (by omega), log_lt (hq.den hm) (by omega) (by omega)⟩, hK _ ⟨pre ++ [q], Fz (.tup [.str q.nm, .int q.c, .int q.d, rq q.w]), ?_, by rw [hpre, List.append_assoc]; rfl⟩⟩
      rw [scl_snoc]
      rfl
    · rintro ρ ⟨pre, c15, rfl, hpre⟩
      rw [List.append_nil] at hpre
      subst hpre
      exact hEE _
  generalize hS : scl qs = S at *
  have hSd : ∀ q ∈ qs, q.w.den ∣ S := fun q hqm => by rw [← hS]; exact scl_dvd hqm
  -- the while
  have wh : ∀ (c0 : Ct) (EE : Ep) (c2 c4 c15 : Ct), liC ((qs.map (toJ S)).map jbD) c2 → liC ((frOf (qs.map (toJ S))).map ivD) c4 → (∀ rs, Rnds (qs.map (toJ S)) (frOf (qs.map (toJ S))) rs → ∀ c2 c4 c5 c6 c7 c8 c9 c10 c11 c12 c13 c14 c15 c16 c17, EE.nx (rwE c0 S c2 (rs.map (rdD S)) c4 c5 c6 c7 c8 c9 c10 c11 c12 c13 c14 c15 c16 c17)) →
      sWhile (tTru (tNm 2)) B_rounds_with_5 (rwE c0 S c2 [] c4 .no .no .no .no .no .no .no .no .no .no c15 .no .no) EE := by
    intro c0 EE c2 c4 c15 hc2 hc4 hEE
    have hfr0 : ∀ p ∈ frOf (qs.map (toJ S)), p.2 ≤ 2 ^ K := fun p hp => by
      by_cases hn : qs.map (toJ S) = []
      · rw [hn] at hp; cases hp
      · obtain ⟨lo, hi, e, _, _, ⟨y, hy, e2⟩⟩ := frOf_ne hn
        rw [e, List.mem_singleton] at hp
        subst hp
        obtain ⟨q, hqm, rfl⟩ := List.mem_map.mp hy
        have := (hq.job q hqm).2.2.2.1
        unfold Bs at this
        have e3 : hi = q.d := e2
        show hi ≤ _
        have h3 : ((2 ^ K : Nat) : Int) = (2 : Int) ^ K := by norm_cast
        omega
    refine ⟨RwInv K S qs c0,
      ⟨_, qs.map (toJ S), frOf (qs.map (toJ S)), [], c2, c4, .no, .no, .no, .no, .no, .no, .no, .no, .no, .no, c15, .no, .no, rfl, hc2, hc4, rfl, h0, fun rs h => h, by simp; exact hfew, ?_, hfr0, Int.le_refl _, fun j hj => ?_⟩, ?_⟩
    · by_cases hn : qs.map (toJ S) = []
      · rw [hn]; simp [frOf]
      · obtain ⟨lo, hi, e, _⟩ := frOf_ne hn
        rw [e]; simp
    · obtain ⟨q, hqm, rfl⟩ := List.mem_map.mp hj
      exact (hq.job q hqm).2.2.2.2.2
    · rintro m ρ ⟨js, fr, done, c2, c4, c5, c6, c7, c8, c9, c10, c11, c12, c13, c14, c15, c16, c17, rfl, hc2, hc4, rfl, hok, hrel, hcnt, hfl, hfb, hwt, hstr⟩
      have hdl : (2 : Nat) ^ done.length ≤ 2 ^ 13 := Nat.pow_le_pow_right (by omega) (by omega)
      have hfl2 : fr.length ≤ 10000 := by
        have : (2 : Nat) ^ 13 = 8192 := by decide
        omega
      have htru : truD (.lst (js.map jbD)) = !js.isEmpty := by
        unfold truD; cases js <;> rfl
      by_cases hne : js = []
      · subst hne
        have fin := hEE done (by have := hrel [] .nil; rw [List.append_nil] at this; exact this)
        rcases hc2 with rfl | rfl
        · unfold rwE; walk_at "pm"; exact fin _ _ _ _ _ _ _ _ _ _ _ _ _ _ _
        · unfold rwE; walk_at "pm"; exact fin _ _ _ _ _ _ _ _ _ _ _ _ _ _ _
      · have hemp : js.isEmpty = false := by cases js with | nil => exact absurd rfl hne | cons _ _ => rfl
        have hemp2 : (js.map jbD).isEmpty = false := by cases js with | nil => exact absurd rfl hne | cons _ _ => rfl
        have hM : (0 : Int) ≤ 2 ^ K := Int.le_of_lt (Int.pow_pos (by omega))
        have bln : ∀ a b, Bs (2 * K + 4) (ln fr a b) := fun a b => by
          have h1 := ln_le hok.fo hM hfb (a := a) (b := b)
          have h2 := ln_nonneg (fr := fr) (a := a) (b := b)
          refine Bs.mono (n := K + 1) ?_ (by omega)
          unfold Bs
          have e1 : (2 : Nat) ^ (K + 1) = 2 * 2 ^ K := by rw [Nat.pow_succ]; omega
          have e2 : (((2 : Nat) ^ K : Nat) : Int) = (2 : Int) ^ K := by norm_cast
          have : 0 < (2 : Nat) ^ K := Nat.pow_pos (by omega)
          omega
        have bln1 : ∀ a b, Bs (K + 1) (ln fr a b) := fun a b => by
          have h1 := ln_le hok.fo hM hfb (a := a) (b := b)
          have h2 := ln_nonneg (fr := fr) (a := a) (b := b)
          unfold Bs
          have e1 : (2 : Nat) ^ (K + 1) = 2 * 2 ^ K := by rw [Nat.pow_succ]; omega
          have e2 : (((2 : Nat) ^ K : Nat) : Int) = (2 : Int) ^ K := by norm_cast
          have : 0 < (2 : Nat) ^ K := Nat.pow_pos (by omega)
          omega
        have bld : ∀ a b, Bs (2 * K + 4) (ld (rowsOf fr js) a b) := fun a b => htot.nn (ld_nn hok) (Int.le_trans (ld_le hok.pos) hwt)
        -- the body
        have body : ∀ (c5 c6 c7 c8 c9 c10 c11 c12 c13 c14 c15 c16 c17 : Ct), B_rounds_with_5 (rwE c0 S c2 (done.map (rdD S)) c4 c5 c6 c7 c8 c9 c10 c11 c12 c13 c14 c15 c16 c17) (EE.lp fun ρ'' => ∃ m', m' < js.length ∧ RwInv K S qs c0 m' ρ'') := by
          intro c5 c6 c7 c8 c9 c10 c11 c12 c13 c14 c15 c16 c17
          have tail : ∀ (c5 c6 c7 c8 c9 c10 c11 c12 c13 c14 c15 c16 c17 : Ct) (rc : FC), rcOk (rowsOf fr js) rc → B_rounds_with_4 (rwE c0 S (Fz (.lst (js.map jbD))) (done.map (rdD S)) (Fz (.lst (fr.map ivD))) (scOb fr rc) c6 c7 c8 c9 c10 c11 c12 c13 c14 c15 c16 c17) (EE.lp fun ρ'' => ∃ m', m' < js.length ∧ RwInv K S qs c0 m' ρ'') := by
            intro c5 c6 c7 c8 c9 c10 c11 c12 c13 c14 c15 c16 c17 rc hrc
            unfold B_rounds_with_4 rwE
            walk_at "pm"
            refine ⟨2 * K + 4, fr, js, rc, rfl, hrc, hfl2, by omega, hok, by omega, bld, bln, fun best hb => ?_⟩
            obtain ⟨L, N, a, b, e⟩ := best_some hok hne hb
            subst e
            have eb : bstD (some (L, N, a, b)) = .tup [.int L, .int N, .int a, .int b] := rfl
            rw [eb]
            walk_at "pm"
            have hab := best_lt hok hb
            obtain ⟨b1, b2, b3, b4, b5⟩ := id hb
            have hNpos : 0 < N := by rw [b4]; exact hok.ln_pos b2
            have bN : Bs (K + 1) N := by rw [b4]; exact bln1 _ _
            have bS : Bs K (S : Int) := by rw [← hS]; exact hq.sc
            have bNS : Bs (2 * K + 1) (N * (S : Int)) := by
              have := bN.mul bS
              rw [show K + 1 + K = 2 * K + 1 by omega] at this; exact this
            have last := fun (c5 c11 c12 c13 c14 c15 c16 c17 : Ct) => rw_tail (K := K) (S := S) (qs := qs) (c0 := c0) (EE := EE) (c2 := Fz (.lst (js.map jbD))) (c4 := Fz (.lst (fr.map ivD))) (c5 := c5) (c11 := c11) (c12 := c12) (c13 := c13) (c14 := c14) (c15 := c15) (c16 := c16) (c17 := c17) (.inr rfl) (.inr rfl) hok hb hrel hcnt hfl hfb hwt hstr hne
            generalize hnm : ((rowsOf fr js).filter (inR a b)).map (·.nm) = nms at last
            have names : ∀ (c10 c11 c12 c13 c14 c15 c16 c17 : Ct) (EX : Exn → En → Prop) (RR : R → En → Prop), RR (.va (Wl (nms.map .str))) (rwE c0 S (Fz (.lst (js.map jbD))) (done.map (rdD S)) (Fz (.lst (fr.map ivD))) (scOb fr (.fz (.lst ((rowsOf fr js).map rwD)))) (Fz (.int L)) (Fz (.int N)) (Fz (.int a)) (Fz (.int b)) c10 .no c12 c13 .no c15 .no .no) →
                lcK (.tp [.nm 16, .nm 17, .nm 11, .nm 14]) (tAnd (tCmpT .LtE (tNm 8) (tNmC 16)) (tCmpT .LtE (tNmC 17) (tNm 9))) (tNmC 11) [16, 17, 11, 14] EX RR ((rowsOf fr js).map rwD) [] (rwE c0 S (Fz (.lst (js.map jbD))) (done.map (rdD S)) (Fz (.lst (fr.map ivD))) (scOb fr (.fz (.lst ((rowsOf fr js).map rwD)))) (Fz (.int L)) (Fz (.int N)) (Fz (.int a)) (Fz (.int b)) c10 .no c12 c13 .no c15 .no .no) := by
              intro c10 c11 c12 c13 c14 c15 c16 c17 EX RR hRR
              refine lc_pure (f := rwD) (fun r : Row => if (decide (a ≤ r.f) && decide (r.l ≤ b)) = true then [D.str r.nm] else []) _ (fun _ => True) ?_ (fun r => by split <;> simp) (rowsOf fr js) [] (fun _ _ => trivial) (line_small (by unfold rowsOf; rw [List.length_nil, List.length_map]; omega)) ?_
              · intro r acc K' _ hacc hK
                have er : rwD r = .tup [.int r.f, .int r.l, .str r.nm, .int r.w] := rfl
                unfold rwE at hK ⊢
                rw [er]
                walk_at "pm"
                by_cases h1 : a ≤ r.f
                · rw [if_pos h1]
                  by_cases h2 : r.l ≤ b
                  · rw [if_pos h2]
                    rw [if_pos (by simp [h1, h2])] at hK
                    exact ⟨hacc, hK⟩
                  · rw [if_neg h2]
                    rw [if_neg (by simp [h2]), List.append_nil] at hK
                    exact hK
                · rw [if_neg h1]
                  rw [if_neg (by simp [h1]), List.append_nil] at hK
                  exact hK
              · rw [nms_map, hnm, List.nil_append]; exact hRR
            unfold B_rounds_with_3
            unfold rwE at names
            walk_at "pm"
            refine names _ c11 _ _ c14 _ c16 c17 _ _ ?_
            walk_at "pm"
            unfold B_rounds_with_2
            walk_at "pm"
            refine ⟨Bs.mulOk bN bS (by omega), 2 * K + 1, L, _, rfl, ?_, bNS, by omega, ?_⟩
            · exact Int.ne_of_gt (Int.mul_pos hNpos (by omega))
            · walk_at "pm"
              refine ⟨fr, a, b, rfl, hfl2, ?_⟩
              walk_at "pm"
              refine ⟨Nat.lt_of_lt_of_le (show (done.map (rdD S)).length < 20 by rw [List.length_map]; omega) (line_small (by omega)), ?_⟩
              have := last (scOb fr (.fz (.lst ((rowsOf fr js).map rwD)))) .no c12 c13 .no c15 .no .no
              unfold rwE at this
              rw [List.map_append] at this
              exact this
          unfold B_rounds_with_5 rwE
          have tail2 := tail .no c6 c7 c8 c9 c10 c11 c12 c13 c14 c15 c16 c17 _ (.inl rfl)
          unfold rwE at tail2
          rcases hc2 with rfl | rfl <;> rcases hc4 with rfl | rfl
          all_goals
            walk_at "pm"
            refine ⟨fr, js, rfl, hfl2, by omega, hok.win, ?_⟩
            exact ⟨rfl, tail2⟩
        have body := body c5 c6 c7 c8 c9 c10 c11 c12 c13 c14 c15 c16 c17
        rcases hc2 with rfl | rfl
        all_goals
          unfold rwE at body ⊢
          walk_at "pm"
          rw [if_pos hemp2]
          exact body
  have wcomp : ∀ (c0 c15 : Ct) (EX : Exn → En → Prop) (RR : R → En → Prop), RR (.va (Wl ((qs.map (toJ S)).map jbD))) [c0, Fz (.int S), .no, .no, .no, .no, .no, .no, .no, .no, .no, .no, .no, .no, .no, c15, .no, .no] →
      lcK (.tp [.nm 11, .nm 12, .nm 13, .nm 14]) tYes' (tTup (tACons (tNmC 11) (tACons (tNmC 12) (tACons (tNmC 13) (tAOne (tBin (opB .Mult) (tIx (tNmC 14) (tK (.int 0))) (tBin (opB .FloorDiv) (tNm 1) (tIx (tNmC 14) (tK (.int 1)))))))))) [11, 12, 13, 14] EX RR (qs.map jqD) [] [c0, Fz (.int S), .no, .no, .no, .no, .no, .no, .no, .no, .no, .no, .no, .no, .no, c15, .no, .no] := by
    intro c0 c15 EX RR hRR
    refine lc_pure (f := jqD) (fun q : Jq => [jbD (toJ S q)]) _ (fun q => q ∈ qs) ?_ (fun r => by simp) qs [] (fun q h => h) (line_small (by rw [List.length_nil]; omega)) ?_
    · intro q acc K' hqm hacc hK
      have bd := hq.den hqm
      have bn := (hq.job q hqm).2.2.2.2.1
      have hdp := q.w.den_pos
      rw [eq0]
      walk_at "pm"
      have bS : Bs K (S : Int) := by rw [← hS]; exact hq.sc
      have e1 : Int.fdiv (S : Int) (q.w.den : Int) = (S : Int) / (q.w.den : Int) := Int.fdiv_eq_ediv_of_nonneg _ (by omega)
      rw [e1]
      have b2 : Bs K ((S : Int) / (q.w.den : Int)) := bS.nn (Int.ediv_nonneg (by omega) (by omega)) (Int.ediv_le_self _ (by omega))
      exact ⟨bd.div (by omega) (by omega), bn.mulOk b2 (by omega), hacc, hK⟩
    · rw [flat1, List.nil_append]
      rw [List.map_map] at hRR
      exact hRR
  have rest : ∀ (c0 : Ct) (EE : Ep) (c15 : Ct), (∀ rs, Rnds (qs.map (toJ S)) (frOf (qs.map (toJ S))) rs → ∀ c2 c4 c5 c6 c7 c8 c9 c10 c11 c12 c13 c14 c15 c16 c17, EE.rt (.al 3) (rwE c0 S c2 (rs.map (rdD S)) c4 c5 c6 c7 c8 c9 c10 c11 c12 c13 c14 c15 c16 c17)) →
      B_rounds_with_7 [c0, Fz (.int S), Wl ((qs.map (toJ S)).map jbD), Wl [], Wl [], .no, .no, .no, .no, .no, .no, .no, .no, .no, .no, c15, .no, .no] EE := by
    intro c0 EE c15 hEE
    unfold B_rounds_with_7
    have fin : ∀ (c2 c4 c15 : Ct), liC ((qs.map (toJ S)).map jbD) c2 → liC ((frOf (qs.map (toJ S))).map ivD) c4 → B_rounds_with_6 [c0, Fz (.int S), c2, Wl [], c4, .no, .no, .no, .no, .no, .no, .no, .no, .no, .no, c15, .no, .no] EE := by
      intro c2 c4 c15 h2 h4
      unfold B_rounds_with_6
      walk_at "pm"
      refine wh c0 _ c2 c4 c15 h2 h4 fun rs hrs c2 c4 c5 c6 c7 c8 c9 c10 c11 c12 c13 c14 c15 c16 c17 => ?_
      unfold rwE
      walk_at "pm"
      exact hEE rs hrs _ _ _ _ _ _ _ _ _ _ _ _ _ _ _
    by_cases hne : qs.map (toJ S) = []
    · rw [hne] at fin ⊢
      walk_at "pm"
      refine fin _ _ _ (.inl rfl) (.inl ?_)
      rfl
    · obtain ⟨lo, hi, efr, h1, h2, h3⟩ := frOf_ne hne
      have hemp2 : ((qs.map (toJ S)).map jbD).isEmpty = false := by
        cases hq2 : qs.map (toJ S) with
        | nil => exact absurd hq2 hne
        | cons _ _ => rfl
      have hlen : (qs.map (toJ S)).length ≤ 13 := by rw [List.length_map]; exact hfew
      generalize qs.map (toJ S) = js0 at *
      have cmp1 : ∀ (c2 : Ct) (EX : Exn → En → Prop) (RR : R → En → Prop), RR (.va (Wl ((js0.map (·.c)).map .int))) [c0, Fz (.int S), c2, Wl [], Wl [], .no, .no, .no, .no, .no, .no, .no, .no, .no, .no, .no, .no, .no] →
          lcK (.nm 15) tYes' (tIx (tNmC 15) (tK (.int 1))) [15] EX RR (js0.map jbD) [] [c0, Fz (.int S), c2, Wl [], Wl [], .no, .no, .no, .no, .no, .no, .no, .no, .no, .no, .no, .no, .no] := by
        intro c2 EX RR hRR
        refine lc_pure (f := jbD) (fun j : Job => [D.int j.c]) _ (fun q => True) ?_ (fun r => by simp) js0 [] (fun q h => trivial) (line_small (by rw [List.length_nil]; omega)) ?_
        · intro j acc K' _ hacc hK
          have er : jbD j = .tup [.str j.nm, .int j.c, .int j.d, .int j.w] := rfl
          rw [er]
          walk_at "pm"
          exact ⟨hacc, hK⟩
        · rw [flat1, List.nil_append]
          rw [List.map_map] at hRR
          exact hRR
      have cmp2 : ∀ (c2 : Ct) (EX : Exn → En → Prop) (RR : R → En → Prop), RR (.va (Wl ((js0.map (·.d)).map .int))) [c0, Fz (.int S), c2, Wl [], Wl [], .no, .no, .no, .no, .no, .no, .no, .no, .no, .no, .no, .no, .no] →
          lcK (.nm 15) tYes' (tIx (tNmC 15) (tK (.int 2))) [15] EX RR (js0.map jbD) [] [c0, Fz (.int S), c2, Wl [], Wl [], .no, .no, .no, .no, .no, .no, .no, .no, .no, .no, .no, .no, .no] := by
        intro c2 EX RR hRR
        refine lc_pure (f := jbD) (fun j : Job => [D.int j.d]) _ (fun q => True) ?_ (fun r => by simp) js0 [] (fun q h => trivial) (line_small (by rw [List.length_nil]; omega)) ?_
        · intro j acc K' _ hacc hK
          have er : jbD j = .tup [.str j.nm, .int j.c, .int j.d, .int j.w] := rfl
          rw [er]
          walk_at "pm"
          exact ⟨hacc, hK⟩
        · rw [flat1, List.nil_append]
          rw [List.map_map] at hRR
          exact hRR
      obtain ⟨x1, hx1, ex1⟩ := h2
      obtain ⟨x2, hx2, ex2⟩ := h3
      have hl0 : 0 < js0.length := List.length_pos_iff.mpr hne
      walk_at "pm"
      rw [if_pos hemp2]
      refine cmp1 _ _ _ ?_
      walk_at "pm"
      rw [ints_map]
      walk_at "pm"
      refine ⟨by simpa using hl0, fun m hm hmin => ?_⟩
      have em : m = lo := by
        obtain ⟨y, hy, ey⟩ := List.mem_map.mp hm
        have a1 := hmin x1.c (List.mem_map.mpr ⟨x1, hx1, rfl⟩)
        have a2 := (h1 y hy).1
        omega
      subst em
      refine cmp2 _ _ _ ?_
      walk_at "pm"
      rw [ints_map]
      walk_at "pm"
      refine ⟨by simpa using hl0, fun m2 hm2 hmax => ?_⟩
      have em : m2 = hi := by
        obtain ⟨y, hy, ey⟩ := List.mem_map.mp hm2
        have a1 := hmax x2.d (List.mem_map.mpr ⟨x2, hx2, rfl⟩)
        have a2 := (h1 y hy).2
        omega
      subst em
      refine fin _ _ _ (.inr rfl) (.inl ?_)
      rw [efr]; rfl
  have main : ∀ c0, (c0 = Fz (.tup (qs.map jqD)) ∨ c0 = Fz (.lst (qs.map jqD))) → T_rounds_with ([c0] ++ List.replicate 17 .no) (fnE [c0] R0 E0) := by
    intro c0 hc0
    unfold T_rounds_with B_rounds_with_11 B_rounds_with_10 B_rounds_with_9 B_rounds_with_8
    rcases hc0 with rfl | rfl
    all_goals
      walk_at "pm"
      refine loop1 _ _ fun c15 => ?_
      walk_at "pm"
      refine wcomp _ _ _ _ ?_
      walk_at "pm"
      refine rest _ _ _ fun rs hrs c2 c4 c5 c6 c7 c8 c9 c10 c11 c12 c13 c14 c15 c16 c17 => ?_
      unfold rwE
      walk_at "pm"
      exact hR rs hrs
  rcases hc with rfl | rfl
  · exact ⟨noOw _ rfl, main _ (.inl rfl)⟩
  · exact ⟨noOw _ rfl, main _ (.inr rfl)⟩
def T_rounds : TSp :=
  (sRet (tLc' (iAny (tCall φ_rounds_with [false] [] (tAOne (tCall φ_with_ratios [false] [] (tAOne (tNm 0)))))) (.nm 1) tYes' (tSlice (tNmC 1) tONone (tOSome (tK (.int 3)))) [1]))
/-- jobs with whole works -/
structure JsOk (js : List Job) : Prop where
  few : js.length ≤ 13
  job : ∀ j ∈ js, 0 ≤ j.c ∧ j.c < j.d ∧ j.d ≤ 20000 ∧ 0 < j.w ∧ j.w ≤ 40000 ∧ PyData.strOk j.nm = true
theorem scl_int (js : List Job) : scl (js.map toQ) = 1 := by
  unfold scl
  have : ∀ l : List Job, (l.map toQ).foldl (fun s j => Nat.lcm s j.w.den) 1 = 1 := by
    intro l
    induction l with
    | nil => rfl
    | cons j l ih =>
      rw [List.map_cons, List.foldl_cons]
      have : (toQ j).w.den = 1 := Rat.den_intCast _
      rw [this]
      exact ih
  exact this js
theorem toJ_toQ (j : Job) : toJ 1 (toQ j) = j := by
  have : iw 1 (toQ j) = j.w := by
    unfold iw
    have h1 : (toQ j).w.num = j.w := Rat.num_intCast _
    have h2 : (toQ j).w.den = 1 := Rat.den_intCast _
    rw [h1, h2]; simp
  unfold toJ
  rw [this]; rfl
theorem toJ_map (js : List Job) : (js.map toQ).map (toJ (scl (js.map toQ))) = js := by
  rw [scl_int, List.map_map]
  have : (toJ 1 ∘ toQ) = id := by funext j; exact toJ_toQ j
  rw [this, List.map_id]
theorem JsOk.qs {js : List Job} (h : JsOk js) : QsOk 20 (js.map toQ) := by
  refine ⟨by rw [List.length_map]; exact h.few, by decide, by decide, fun q hq => ?_, by rw [scl_int]; decide⟩
  obtain ⟨j, hj, rfl⟩ := List.mem_map.mp hq
  obtain ⟨a, b, c, d, e, f⟩ := h.job j hj
  refine ⟨a, b, ?_, (by show j.d.natAbs < 2 ^ 20; have : (2 : Nat) ^ 20 = 1048576 := (by decide); omega), ?_, f⟩
  · show (0 : Rat) < (j.w : Rat)
    exact_mod_cast d
  · show Bs 20 ((j.w : Rat)).num
    rw [Rat.num_intCast]
    show j.w.natAbs < 2 ^ 20
    have : (2 : Nat) ^ 20 = 1048576 := by decide
    omega
def rndD (r : Rd) : D := .tup [rq ((r.L : Rat) / (r.N : Rat)), .tup (r.nms.map .str), .tup (r.tms.map ivD)]
theorem rdD1 (r : Rd) : rdD 1 r = .tup [rq ((r.L : Rat) / (r.N : Rat)), .tup (r.nms.map .str), .tup (r.tms.map ivD), .int r.a, .int r.b] := by
  unfold rdD
  have : r.N * ((1 : Nat) : Int) = r.N := by simp
  rw [this]
def φ_rounds : Fn := fun cs R0 _ => ∃ (js : List Job), (cs = [Fz (.tup (js.map jbD))] ∨ cs = [Fz (.lst (js.map jbD))]) ∧ JsOk js ∧ ∀ rs, Rnds js (frOf js) rs → R0 (Wl (rs.map rndD)) [.no]
theorem sp_rounds (cs : List Ct) (R0 : Ct → List Ct → Prop) (E0 : Exn → List Ct → Prop) : φ_rounds cs R0 E0 → fnOf 1 [] T_rounds cs R0 E0 := by
  rintro ⟨js, hc, hok, h⟩
  rw [fnOf_eq]
  have hqs := hok.qs
  have main : ∀ c0, (c0 = Fz (.tup (js.map jbD)) ∨ c0 = Fz (.lst (js.map jbD))) → T_rounds [c0, .no] (fnE [c0] R0 E0) := by
    intro c0 hc0
    unfold T_rounds
    rcases hc0 with rfl | rfl
    all_goals
      have hf := hok.few
      walk_at "pm"
      refine ⟨js, by first | exact .inl rfl | exact .inr rfl, by omega, ?_⟩
      walk_at "pm"
      refine ⟨20, js.map toQ, .inr rfl, hqs, fun rs hrs => ?_⟩
      rw [toJ_map] at hrs
      rw [scl_int]
      walk_at "pm"
      have hlen : rs.length ≤ js.length := by
        have : ∀ {js : List Job} {fr : List Iv} {rs : List Rd}, Rnds js fr rs → rs.length ≤ js.length := by
          intro js fr rs hr
          induction hr with
          | nil => simp
          | cons hn hb _ ih =>
            have := round_less hb
            rw [List.length_cons]; omega
        exact this hrs
      refine lc_pure (f := rdD 1) (fun r : Rd => [rndD r]) _ (fun _ => True) ?_ (fun r => by simp) rs [] (fun _ _ => trivial) (line_small (by rw [List.length_nil]; omega)) ?_
      · intro r acc K' _ hacc hK
        rw [rdD1]
        walk_at "pm"
        exact ⟨hacc, hK⟩
      · walk_at "pm"
        rw [flat1]
        exact h rs hrs
  rcases hc with rfl | rfl
  · exact ⟨noOw _ rfl, main _ (.inl rfl)⟩
  · exact ⟨noOw _ rfl, main _ (.inr rfl)⟩
end Pm

namespace Pm
open PySem PySem.Spec PyProof.Rows L2
/-! ### dicts: put, get -/
theorem dkGet_put {kvs : List (Key × D)} {k k' : Key} {d : D} : dkGet (dkPut kvs k d) k' = if k' = k then some d else dkGet kvs k' := by
  unfold dkPut
  by_cases ha : (kvs.any fun kv => decide (kv.1 = k)) = true
  · rw [if_pos ha]
    have : ∀ l : List (Key × D), dkGet (l.map fun kv => if kv.1 = k then (kv.1, d) else kv) k' = if k' = k then (if (l.any fun kv => decide (kv.1 = k)) = true then some d else none) else dkGet l k' := by
      intro l
      induction l with
      | nil => by_cases h : k' = k <;> simp [dkGet, h]
      | cons p l ih =>
        unfold dkGet at ih ⊢
        rw [List.map_cons, List.find?_cons, List.any_cons, List.find?_cons]
        by_cases hp : p.1 = k
        · rw [if_pos hp]
          by_cases h : k' = k
          · subst h
            simp [hp]
          · have h1 : ¬ p.1 = k' := fun z => h (z.symm.trans hp)
            rw [decide_eq_false h1]
            rw [ih, if_neg h, if_neg h]
        · rw [if_neg hp]
          by_cases h : k' = k
          · subst h
            rw [decide_eq_false hp]
            simp only [Bool.false_or]
            rw [if_pos rfl] at ih
            simp only [if_true]
            exact ih
          · rw [if_neg h] at ih ⊢
            by_cases h1 : p.1 = k'
            · rw [decide_eq_true h1]
            · rw [decide_eq_false h1]
              exact ih
    rw [this kvs, if_pos ha]
  · rw [if_neg ha]
    unfold dkGet
    rw [List.find?_append]
    by_cases h : k' = k
    · subst h
      rw [if_pos rfl]
      have : kvs.find? (fun kv => decide (kv.1 = k')) = none := by
        rw [List.find?_eq_none]
        intro x hx z
        exact ha (List.any_eq_true.mpr ⟨x, hx, z⟩)
      rw [this]
      simp
    · rw [if_neg h]
      have h1 : ¬ k = k' := fun z => h z.symm
      have : ([(k, d)] : List (Key × D)).find? (fun kv => decide (kv.1 = k')) = none := by simp [h1]
      rw [this]
      cases kvs.find? (fun kv => decide (kv.1 = k')) <;> rfl
theorem dkPut_len {kvs : List (Key × D)} {k : Key} {d : D} : (dkPut kvs k d).length ≤ kvs.length + 1 := by
  unfold dkPut
  split
  · rw [List.length_map]; omega
  · rw [List.length_append]; simp
end Pm

namespace Pm
open PySem PySem.Spec PyProof.Rows L2
local macro_rules | `(tactic| walk_at "pm") => `(tactic| simp only [e_fd, fd_ob, fd_fz, fd_ow, fd_dk, lk_hit, lk_miss, lk_nil, pt_hit, pt_miss, pt_nil, nA_alf, vw_alf, af_ob, fcD_fz, fcD_ow, fcD_dk, cf_alf, cf_al, cf_va, afF_ob, alF_at, fzC_alf, afZ_ob, afZ_fz, afZ_ow, stC_alf, e_sFd, sfd_at, e_me, me_ob, oN_none, isOw_ob, e_mk, hd_cons, e_muR, muR1_ow, muR2_ow, isPl_al, isPl_alf, setR_al, setR_alf, setRf_ob, e_dn, e_dkK, dk1_dk, dk2_k, kD_int, kD_str, e_dg, e_di, e_diT, e_dp, e_keyK, e_dcc, dc_nil, dc_cons, e_srt, seqD_l, seqD_t, e_rev, f_lcm, c_inT, c_ninT, nq_1, nq_2, nq_3, nq_4, nq_5, nq_6, nq_7, Bool.false_bne, Bool.true_bne, e_lcO, e_mth, e_mth0, tyK_lst, tyK_str, tyD_lst, tyD_str, f_index, e_iEnum, enK_one, walkE_lst, walkE_tup, e_cSort, srtK_lst, f_maxL, f_minL, shp_rqs, any_rq, sz0, sz1, sz2, sz3, sz4, sz5, sz6, sz7, sz8, ix_pt0, ix_pt1, true_false_F, c_eqB, c_neB, sq_nx, ix_rq0, ix_rq1, c_eqR, c_neR, c_eqR0, c_neR0, isNon_rq, shp_rqT, clsD_rq_tuple, f_len_rq, e_iAny, walkA_lst, walkA_tup, e_oNone, e_oSome, oiK_int, e_slice, sl_lstD, sl_tupD, sl_strD, intK_int, e_chG, e_chT_le_lt, e_chT_lt_le, e_chT_le_le, e_chT_lt_lt, e_ch_le_lt, e_ch_lt_le, e_ch_le_le, e_ch_lt_lt, f_sum, f_all, f_any, e_mu, muN_ow, muK_ow, f_app, f_ext, f_pop, f_ins, sq_rt, sq_bk, sq_ct, sq_ex, lp_nx, lp_ct, lp_bk, lp_rt, lp_ex, fn_nx, fn_rt, fn_ex, oD_some, oD_none, e_nm, nm_fz, nm_ow, nm_dk, e_nmC, nmc_fz, e_K, vw_fz, vw_ow, vw_al, alV_fz, alV_ow, nA_va, nA_al, fzC_fz, fzC_ow, fzC_al, alZ_fz, alZ_ow, stC_va, stC_al, fzL_nil, fzL_cons, e_fzK, b_addI, b_addS, b_addL, b_addT, b_sub, b_mul, b_div, b_mod, b_pow, c_lt, c_le, c_gt, c_ge, c_eqS, c_neS, c_eqI, c_neI, c_eqT, c_neT, c_eqL, c_neL, c_is, c_isn, c_in, c_nin, isNon_non, isNon_int, isNon_str, isNon_tup, isNon_lst, isNon_bl, shp_intT, shp_nonT, shp_blT, shp_ratT, eqD_rat, e_bin, e_cmp, e_cmpT, e_tru, tru_bl, tru_int, tru_non, tru_lst, tru_tup, tru_str, trs_bl, trs_int, trs_non, trs_lst, trs_tup, trs_str, e_and, e_or, e_not, e_yes, isB_bl, e_andV, e_orV, e_notV, e_ifE, e_neg, neg_int, e_aNil, e_aOne, e_aCons, e_tup, e_lst, e_ix, ix_tupD, ix_lstD, ix_strD, e_isi, e_cb, e_cD1, e_cD2, e_list, list_tup, list_lst, list_scr, e_tuple, tup_tup, tup_lst, f_len_tup, f_len_lst, f_len_scr, f_len_str, f_int, f_abs, f_gcd, f_max, f_min, e_call, e_callK, fzM_nil, fzM_f, fzM_t, isOw_fz, isOw_ow, isOw_no, isOw_dk, brs_nil, brs_l, brs_r, cts_nil, cts_l, cts_r, wb_nil, wb_l, wb_r, outs_nil, outs_cons, ret_va, ret_al, e_sNil, e_seq, e_pass, e_brk, e_cnt, e_never, e_ret, e_retN, e_exp, e_if, e_set, e_aug, aug_int, augK_int, e_par, par_2, e_asg, e_sub, subN_ow, subK_ow, e_for, for_nil, for_cons, tg_nm, tg_tp, tgs_nil, tgs_cons, e_rng1, e_rng2, rngL1_1, rngL2_2, rngK1_int, rngK2_int, e_iLst, e_iTup, walkL_lst, walkT_tup, e_lc, lc_nil, lc_cons, wipeE_nil, wipeE_cons, clsD_int_int, clsD_int_bool, clsD_int_str, clsD_int_tuple, clsD_str_str, clsD_str_tuple, clsD_str_int, clsD_tup_tuple, clsD_tup_str, clsD_tup_int, clsD_non_tuple, clsD_non_str, clsD_non_int, clsD_bl_bool, clsD_bl_int, clsD_bl_tuple, atI_0, atI_1, atI_2, atI_3, atI_4, ixN5_0, ixN5_1, ixN5_2, ixN5_3, ixN5_4, List.map_cons, List.map_nil, List.cons_append, List.nil_append, List.append_nil, List.replicate, List.getElem?_cons_zero, List.getElem?_cons_succ, List.getD_cons_zero, List.getD_cons_succ, List.set_cons_zero, List.set_cons_succ, Option.bind_some, Option.bind_none, List.length_cons, List.length_nil, if_true, if_false, Bool.false_eq_true, Bool.not_true, Bool.not_false, Bool.not_eq_true', decide_eq_true_eq, decide_eq_false_iff_not, and_true, true_and, List.mem_cons, List.not_mem_nil, or_false, forall_eq, false_imp_iff, implies_true, List.nodup_nil, List.nodup_cons, not_false_eq_true, List.isEmpty_cons, List.isEmpty_nil, List.tail_cons, List.tail_nil])
/-! ## speeds, peak -/
def spQ (r : Rd) : Rat := (r.L : Rat) / (r.N : Rat)
theorem rndD_eq (r : Rd) : rndD r = .tup [rq (spQ r), .tup (r.nms.map .str), .tup (r.tms.map ivD)] := rfl
def B_speeds_1 : TSp :=
  (sFor (iAny (tNm 3)) (.nm 5) (sDp (tNm 1) (tNm 5) (tNm 2)))
def B_speeds_2 : TSp :=
  (sSeq (sFor (iAny (tCall φ_rounds [false] [] (tAOne (tNm 0)))) (.tp [.nm 2, .nm 3, .nm 4]) B_speeds_1)
    (sRet (tCb cTuple (tAOne (tLc' (iAny (tNm 0)) (.nm 6) tYes' (tDg (tNm 1) (tIx (tNmC 6) (tK (.int 0)))) [6])))))
def T_speeds : TSp :=
  (sSeq (sSet 1 tDn)
    B_speeds_2)
def spdD (rs : List Rd) (n : Str) : D := rq (spQ ((rdFor rs n).getD ⟨0, 1, 0, 0, [], []⟩))
def φ_speeds : Fn := fun cs R0 _ => ∃ (js : List Job), cs = [Fz (.tup (js.map jbD))] ∧ JsOk js ∧ ∀ rs, Rnds js (frOf js) rs → R0 (Fz (.tup (js.map fun j => spdD rs j.nm))) [.no]
theorem rdFor_snoc {rs : List Rd} {r : Rd} {n : Str} : rdFor (rs ++ [r]) n = (rdFor rs n).or (if n ∈ r.nms then some r else none) := by
  unfold rdFor
  rw [List.find?_append]
  by_cases h : n ∈ r.nms
  · rw [if_pos h, List.find?_cons, decide_eq_true h]
  · rw [if_neg h, List.find?_cons, decide_eq_false h]; rfl
theorem sp_speeds (cs : List Ct) (R0 : Ct → List Ct → Prop) (E0 : Exn → List Ct → Prop) : φ_speeds cs R0 E0 → fnOf 6 [] T_speeds cs R0 E0 := by
  rintro ⟨js, rfl, hok, h⟩
  rw [fnOf_eq]
  refine ⟨noOw _ rfl, ?_⟩
  have hf := hok.few
  unfold T_speeds B_speeds_2
  walk_at "pm"
  refine ⟨js, .inl rfl, hok, fun rs hrs => ?_⟩
  walk_at "pm"
  have hap := hrs.apart
  have hlen := hrs.len
  have hsz := hrs.sz _ (Nat.le_refl _)
  refine for_ind (f := rndD) (fun r2 ρ => ∃ (pre : List Rd) (kvs : List (Key × D)) (c2 c3 c4 c5 : Ct), ρ = [Fz (.tup (js.map jbD)), .at (.dk kvs), c2, c3, c4, c5, .no] ∧ rs = pre ++ r2 ∧ kvs.length ≤ 20 * pre.length ∧ ∀ n, dkGet kvs (.inr n) = (rdFor pre n).map fun r => rq (spQ r)) ?_ ?_ rs _ ⟨[], [], _, _, _, _, rfl, rfl, by simp, fun n => rfl⟩
  · rintro r r2 ρ K ⟨pre, kvs, c2, c3, c4, c5, rfl, hpre, hkl, hget⟩ hK
    have hr : r ∈ rs := by rw [hpre]; simp
    have hrl := (hsz r hr).1
    have hpl : pre.length ≤ 13 := by rw [hpre, List.length_append] at hlen; omega
    have hnot : ∀ n ∈ r.nms, rdFor pre n = none := fun n hn => by
      unfold rdFor
      rw [List.find?_eq_none]
      intro s hs z
      rw [hpre, List.pairwise_append] at hap
      exact hap.2.2 s hs r (by simp) n (of_decide_eq_true z) hn
    rw [rndD_eq]
    unfold B_speeds_1
    walk_at "pm"
    refine for_ind (f := D.str) (fun n2 ρ => ∃ (np : List Str) (kv2 : List (Key × D)) (c5 : Ct), ρ = [Fz (.tup (js.map jbD)), .at (.dk kv2), Fz (rq (spQ r)), Fz (.tup (r.nms.map .str)), Fz (.tup (r.tms.map ivD)), c5, .no] ∧ r.nms = np ++ n2 ∧ kv2.length ≤ kvs.length + np.length ∧ ∀ n, dkGet kv2 (.inr n) = if n ∈ np then some (rq (spQ r)) else (rdFor pre n).map fun r => rq (spQ r)) ?_ ?_ r.nms _ ⟨[], kvs, c5, rfl, rfl, by simp, fun n => by rw [if_neg (by simp)]; exact hget n⟩
    · rintro n n2 ρ K ⟨np, kv2, c5, rfl, hnp, hl2, hg2⟩ hK
      have hnl : np.length ≤ 13 := by rw [hnp, List.length_append] at hrl; omega
      walk_at "pm"
      refine ⟨Nat.lt_of_lt_of_le (show kv2.length < 2000 by omega) (line_small (by omega)), ?_⟩
      refine hK _ ⟨np ++ [n], _, _, rfl, by rw [hnp, List.append_assoc]; rfl, ?_, fun m => ?_⟩
      · have := dkPut_len (kvs := kv2) (k := .inr n) (d := rq (spQ r))
        rw [List.length_append, List.length_singleton]; omega
      · rw [dkGet_put]
        by_cases hm : m = n
        · subst hm; rw [if_pos rfl, if_pos (by simp)]
        · rw [if_neg (fun z => hm (Sum.inr.inj z)), hg2]
          by_cases h1 : m ∈ np
          · rw [if_pos h1, if_pos (by simp [h1])]
          · rw [if_neg h1, if_neg (by simp [h1, hm])]
    · rintro ρ ⟨np, kv2, c5, rfl, hnp, hl2, hg2⟩
      rw [List.append_nil] at hnp
      refine hK _ ⟨pre ++ [r], kv2, _, _, _, _, rfl, by rw [hpre, List.append_assoc]; rfl, ?_, fun n => ?_⟩
      · rw [List.length_append, List.length_singleton]
        rw [← hnp] at hl2; omega
      · rw [hg2, rdFor_snoc, ← hnp]
        by_cases hn : n ∈ r.nms
        · rw [if_pos hn, hnot n hn, if_pos hn]; rfl
        · rw [if_neg hn, if_neg hn]
          cases rdFor pre n <;> rfl
  · rintro ρ ⟨pre, kvs, c2, c3, c4, c5, rfl, hpre, hkl, hget⟩
    rw [List.append_nil] at hpre
    subst hpre
    walk_at "pm"
    refine lc_pure (f := jbD) (fun j : Job => [spdD rs j.nm]) _ (fun j => j ∈ js) ?_ (fun r => by simp) js [] (fun j hj => hj) (line_small (by rw [List.length_nil]; omega)) ?_
    · intro j acc K' hj hacc hK
      have er : jbD j = .tup [.str j.nm, .int j.c, .int j.d, .int j.w] := rfl
      obtain ⟨r, _, e, _⟩ := hrs.for hj
      have eg : dkGet kvs (.inr j.nm) = some (spdD rs j.nm) := by rw [hget, e]; unfold spdD; rw [e]; rfl
      rw [er]
      walk_at "pm"
      rw [eg]
      walk_at "pm"
      exact ⟨hacc, hK⟩
    · walk_at "pm"
      rw [flat1]
      exact h rs hrs
def B_peak_1 : TSp :=
  (sSeq (sSet 1 (tIx (tCall φ_rounds_with [false] [] (tAOne (tCall φ_with_ratios [false] [] (tAOne (tNm 0))))) (tK (.int 0))))
    (sRet (tTup (tACons (tIx (tNm 1) (tK (.int 0))) (tACons (tIx (tNm 1) (tK (.int 3))) (tAOne (tIx (tNm 1) (tK (.int 4)))))))))
def T_peak : TSp :=
  (sSeq (sIf (tNot (tTru (tNm 0))) (sRet (tTup (tACons (tK (.tup [(.int 0), (.int 1)])) (tACons (tK (.int 0)) (tAOne (tK (.int 0))))))) sNil)
    B_peak_1)
def pkD (rs : List Rd) : D := match rs with
  | [] => .tup [.tup [.int 0, .int 1], .int 0, .int 0]
  | r :: _ => .tup [rq (spQ r), .int r.a, .int r.b]
def φ_peak : Fn := fun cs R0 _ => ∃ (js : List Job), cs = [Fz (.tup (js.map jbD))] ∧ JsOk js ∧ ∀ rs, Rnds js (frOf js) rs → R0 (Fz (pkD rs)) [.no]
theorem sp_peak (cs : List Ct) (R0 : Ct → List Ct → Prop) (E0 : Exn → List Ct → Prop) : φ_peak cs R0 E0 → fnOf 1 [] T_peak cs R0 E0 := by
  rintro ⟨js, rfl, hok, h⟩
  rw [fnOf_eq]
  refine ⟨noOw _ rfl, ?_⟩
  have hf := hok.few
  have hqs := hok.qs
  unfold T_peak
  by_cases hne : js = []
  · subst hne
    walk_at "pm"
    exact h [] .nil
  · have hemp2 : (js.map jbD).isEmpty = false := by cases js with | nil => exact absurd rfl hne | cons _ _ => rfl
    walk_at "pm"
    show (if truD (.tup (js.map jbD)) = false then _ else _)
    rw [if_neg (by show ¬ (!(js.map jbD).isEmpty) = false; rw [hemp2]; decide)]
    unfold B_peak_1
    walk_at "pm"
    refine ⟨js, .inl rfl, by omega, ?_⟩
    walk_at "pm"
    refine ⟨20, js.map toQ, .inr rfl, hqs, fun rs hrs => ?_⟩
    rw [toJ_map] at hrs
    rw [scl_int]
    have hR := h rs hrs
    cases hrs with
    | nil => exact absurd rfl hne
    | cons hn hb hnx =>
      rw [List.map_cons, rdD1]
      walk_at "pm"
      exact hR
end Pm

namespace Pm
open PySem PySem.Spec PyProof.Rows L2
local macro_rules | `(tactic| walk_at "pm") => `(tactic| simp only [e_fd, fd_ob, fd_fz, fd_ow, fd_dk, lk_hit, lk_miss, lk_nil, pt_hit, pt_miss, pt_nil, nA_alf, vw_alf, af_ob, fcD_fz, fcD_ow, fcD_dk, cf_alf, cf_al, cf_va, afF_ob, alF_at, fzC_alf, afZ_ob, afZ_fz, afZ_ow, stC_alf, e_sFd, sfd_at, e_me, me_ob, oN_none, isOw_ob, e_mk, hd_cons, e_muR, muR1_ow, muR2_ow, isPl_al, isPl_alf, setR_al, setR_alf, setRf_ob, e_dn, e_dkK, dk1_dk, dk2_k, kD_int, kD_str, e_dg, e_di, e_diT, e_dp, e_keyK, e_dcc, dc_nil, dc_cons, e_srt, seqD_l, seqD_t, e_rev, f_lcm, c_inT, c_ninT, nq_1, nq_2, nq_3, nq_4, nq_5, nq_6, nq_7, Bool.false_bne, Bool.true_bne, e_lcO, e_mth, e_mth0, tyK_lst, tyK_str, tyD_lst, tyD_str, f_index, e_iEnum, enK_one, walkE_lst, walkE_tup, e_cSort, srtK_lst, f_maxL, f_minL, shp_rqs, any_rq, sz0, sz1, sz2, sz3, sz4, sz5, sz6, sz7, sz8, ix_pt0, ix_pt1, true_false_F, c_eqB, c_neB, sq_nx, ix_rq0, ix_rq1, c_eqR, c_neR, c_eqR0, c_neR0, isNon_rq, shp_rqT, clsD_rq_tuple, f_len_rq, e_iAny, walkA_lst, walkA_tup, e_oNone, e_oSome, oiK_int, e_slice, sl_lstD, sl_tupD, sl_strD, intK_int, e_chG, e_chT_le_lt, e_chT_lt_le, e_chT_le_le, e_chT_lt_lt, e_ch_le_lt, e_ch_lt_le, e_ch_le_le, e_ch_lt_lt, f_sum, f_all, f_any, e_mu, muN_ow, muK_ow, f_app, f_ext, f_pop, f_ins, sq_rt, sq_bk, sq_ct, sq_ex, lp_nx, lp_ct, lp_bk, lp_rt, lp_ex, fn_nx, fn_rt, fn_ex, oD_some, oD_none, e_nm, nm_fz, nm_ow, nm_dk, e_nmC, nmc_fz, e_K, vw_fz, vw_ow, vw_al, alV_fz, alV_ow, nA_va, nA_al, fzC_fz, fzC_ow, fzC_al, alZ_fz, alZ_ow, stC_va, stC_al, fzL_nil, fzL_cons, e_fzK, b_addI, b_addS, b_addL, b_addT, b_sub, b_mul, b_div, b_mod, b_pow, c_lt, c_le, c_gt, c_ge, c_eqS, c_neS, c_eqI, c_neI, c_eqT, c_neT, c_eqL, c_neL, c_is, c_isn, c_in, c_nin, isNon_non, isNon_int, isNon_str, isNon_tup, isNon_lst, isNon_bl, shp_intT, shp_nonT, shp_blT, shp_ratT, eqD_rat, e_bin, e_cmp, e_cmpT, e_tru, tru_bl, tru_int, tru_non, tru_lst, tru_tup, tru_str, trs_bl, trs_int, trs_non, trs_lst, trs_tup, trs_str, e_and, e_or, e_not, e_yes, isB_bl, e_andV, e_orV, e_notV, e_ifE, e_neg, neg_int, e_aNil, e_aOne, e_aCons, e_tup, e_lst, e_ix, ix_tupD, ix_lstD, ix_strD, e_isi, e_cb, e_cD1, e_cD2, e_list, list_tup, list_lst, list_scr, e_tuple, tup_tup, tup_lst, f_len_tup, f_len_lst, f_len_scr, f_len_str, f_int, f_abs, f_gcd, f_max, f_min, e_call, e_callK, fzM_nil, fzM_f, fzM_t, isOw_fz, isOw_ow, isOw_no, isOw_dk, brs_nil, brs_l, brs_r, cts_nil, cts_l, cts_r, wb_nil, wb_l, wb_r, outs_nil, outs_cons, ret_va, ret_al, e_sNil, e_seq, e_pass, e_brk, e_cnt, e_never, e_ret, e_retN, e_exp, e_if, e_set, e_aug, aug_int, augK_int, e_par, par_2, e_asg, e_sub, subN_ow, subK_ow, e_for, for_nil, for_cons, tg_nm, tg_tp, tgs_nil, tgs_cons, e_rng1, e_rng2, rngL1_1, rngL2_2, rngK1_int, rngK2_int, e_iLst, e_iTup, walkL_lst, walkT_tup, e_lc, lc_nil, lc_cons, wipeE_nil, wipeE_cons, clsD_int_int, clsD_int_bool, clsD_int_str, clsD_int_tuple, clsD_str_str, clsD_str_tuple, clsD_str_int, clsD_tup_tuple, clsD_tup_str, clsD_tup_int, clsD_non_tuple, clsD_non_str, clsD_non_int, clsD_bl_bool, clsD_bl_int, clsD_bl_tuple, atI_0, atI_1, atI_2, atI_3, atI_4, ixN5_0, ixN5_1, ixN5_2, ixN5_3, ixN5_4, List.map_cons, List.map_nil, List.cons_append, List.nil_append, List.append_nil, List.replicate, List.getElem?_cons_zero, List.getElem?_cons_succ, List.getD_cons_zero, List.getD_cons_succ, List.set_cons_zero, List.set_cons_succ, Option.bind_some, Option.bind_none, List.length_cons, List.length_nil, if_true, if_false, Bool.false_eq_true, Bool.not_true, Bool.not_false, Bool.not_eq_true', decide_eq_true_eq, decide_eq_false_iff_not, and_true, true_and, List.mem_cons, List.not_mem_nil, or_false, forall_eq, false_imp_iff, implies_true, List.nodup_nil, List.nodup_cons, not_false_eq_true, List.isEmpty_cons, List.isEmpty_nil, List.tail_cons, List.tail_nil])
/-! ## the law's own rounds -/
theorem any_strL {x : Str} : ∀ l : List Str, ((l.map D.str).any fun z => eqD z (.str x)) = decide (x ∈ l)
  | [] => rfl
  | a :: l => by
    rw [List.map_cons, List.any_cons, any_strL l, eqD_str]
    by_cases h : x = a
    · subst h; simp
    · have : (a == x) = false := by simpa using fun z => h z.symm
      rw [this]; simp [h]
theorem shp_strL {l : List Str} (h : ∀ a ∈ l, PyData.strOk a = true) : shp (.lst (l.map D.str)) := (Shn.lst (n := 0) fun x hx => by
  obtain ⟨q, hq, rfl⟩ := List.mem_map.mp hx
  unfold Shn D.py PyData.canLay0 PyData.depth; exact ⟨h q hq, Nat.zero_le _⟩).shp (by omega)
theorem shp_strS {a : Str} (h : PyData.strOk a = true) : shp (.str a) := by
  refine Shn.shp (n := 0) ?_ (by omega)
  unfold Shn D.py PyData.canLay0 PyData.depth; exact ⟨h, Nat.zero_le _⟩
def B__law_inside_1 : TSp :=
  (sIf (tCmpT .Lt (tCb (cD2 fMax) (tACons (tNm 4) (tAOne (tNm 1)))) (tCb (cD2 fMin) (tACons (tNm 5) (tAOne (tNm 2))))) (sExp (tMu 3 fApp (tAOne (tTup (tACons (tCb (cD2 fMax) (tACons (tNm 4) (tAOne (tNm 1)))) (tAOne (tCb (cD2 fMin) (tACons (tNm 5) (tAOne (tNm 2)))))))))) sNil)
def B__law_inside_2 : TSp :=
  (sSeq (sFor (iAny (tNm 0)) (.tp [.nm 4, .nm 5]) B__law_inside_1)
    (sRet (tNm 3)))
def T__law_inside : TSp :=
  (sSeq (sSet 3 (tLst tANil))
    B__law_inside_2)
def φ__law_inside : Fn := φ_free_part
theorem sp__law_inside (cs : List Ct) (R0 : Ct → List Ct → Prop) (E0 : Exn → List Ct → Prop) : φ__law_inside cs R0 E0 → fnOf 3 [] T__law_inside cs R0 E0 := by
  rintro ⟨fr, b, e, rfl, hl, h⟩
  rw [fnOf_eq]
  refine ⟨noOw _ rfl, ?_⟩
  unfold T__law_inside B__law_inside_2
  have loop : ∀ EE : Ep, (∀ c4 c5, EE.nx [Fz (.lst (fr.map ivD)), Fz (.int b), Fz (.int e), Wl ((fp fr b e).map ivD), c4, c5]) → forK (.tp [.nm 4, .nm 5]) B__law_inside_1 (fr.map ivD) [Fz (.lst (fr.map ivD)), Fz (.int b), Fz (.int e), Wl [], .no, .no] EE := by
    intro EE hEE
    refine for_ind (f := ivD) (fun r2 ρ => ∃ (pre : List Iv) (c4 c5 : Ct), ρ = [Fz (.lst (fr.map ivD)), Fz (.int b), Fz (.int e), Wl ((fp pre b e).map ivD), c4, c5] ∧ fr = pre ++ r2) ?_ ?_ fr _ ⟨[], _, _, rfl, rfl⟩
    · rintro p r2 ρ K ⟨pre, c4, c5, rfl, hpre⟩ hK
      have fin : ∀ c4 c5, K [Fz (.lst (fr.map ivD)), Fz (.int b), Fz (.int e), Wl ((fp (pre ++ [p]) b e).map ivD), c4, c5] := fun c4 c5 => hK _ ⟨pre ++ [p], c4, c5, rfl, by rw [hpre, List.append_assoc]; rfl⟩
      have hfl := fp_len (fr := pre) (b := b) (e := e)
      have hlp : fr.length = pre.length + (r2.length + 1) := by rw [hpre]; simp
      rw [fp_app, fp_one, List.map_append] at fin
      have eiv : ivD p = .tup [.int p.1, .int p.2] := rfl
      unfold B__law_inside_1
      rw [eiv]
      walk_at "pm"
      simp only [mx_eq, mn_eq]
      by_cases hc : max p.1 b < min p.2 e
      · rw [if_pos hc] at fin
        rw [if_pos hc]
        exact ⟨Nat.lt_of_lt_of_le (show ((fp pre b e).map ivD).length < 20000 by rw [List.length_map]; omega) (line_small (by omega)), fin _ _⟩
      · rw [if_neg hc] at fin
        rw [if_neg hc]
        rw [List.map_nil, List.append_nil] at fin
        exact fin _ _
    · rintro ρ ⟨pre, c4, c5, rfl, hpre⟩
      rw [List.append_nil] at hpre
      subst hpre
      exact hEE _ _
  walk_at "pm"
  refine loop _ fun c4 c5 => ?_
  walk_at "pm"
  exact h
/-- a row of the law -/
def rlD (p : Row × Job) : D := .tup [.int p.1.f, .int p.1.l, jbD p.2]
def rlsOf (fr : List Iv) (js : List Job) : List (Row × Job) := js.map fun j => (rowOf fr j, j)
theorem rls_fst {fr : List Iv} {js : List Job} : (rlsOf fr js).map (·.1) = rowsOf fr js := by unfold rlsOf rowsOf; rw [List.map_map]; rfl
theorem rls_w {fr : List Iv} {js : List Job} {a b : Int} : ints? ((rlsOf fr js).flatMap fun p => if (decide (a ≤ p.1.f) && decide (p.1.l ≤ b)) = true then [D.int p.2.w] else []) = some (((rowsOf fr js).filter fun r => decide (a ≤ r.f ∧ r.l ≤ b)).map (·.w)) := by
  have : ((rlsOf fr js).flatMap fun p => if (decide (a ≤ p.1.f) && decide (p.1.l ≤ b)) = true then [D.int p.2.w] else []) = ((rowsOf fr js).flatMap fun r => if (decide (a ≤ r.f) && decide (r.l ≤ b)) = true then [D.int r.w] else []) := by
    unfold rlsOf rowsOf
    rw [List.flatMap_map, List.flatMap_map]
    rfl
  rw [this, ld_ints]
def B__law_densest_1 : TSp :=
  (sIf (tAnd (tCmpT .Gt (tNm 5) (tK (.int 0))) (tAnd (tCmpT .Eq (tBin (opB .Mult) (tNm 5) (tIx (tNm 2) (tK (.int 1)))) (tBin (opB .Mult) (tIx (tNm 2) (tK (.int 0))) (tNm 6))) (tAnd (tCmpT .Eq (tNm 3) (tIx (tNm 2) (tK (.int 2)))) (tCmpT .Gt (tNm 4) (tIx (tNm 2) (tK (.int 3))))))) (sSet 2 (tTup (tACons (tNm 5) (tACons (tNm 6) (tACons (tNm 3) (tAOne (tNm 4))))))) sNil)
def B__law_densest_2 : TSp :=
  (sIf (tAnd (tCmpT .Gt (tNm 5) (tK (.int 0))) (tCmpT .Gt (tBin (opB .Mult) (tNm 5) (tIx (tNm 2) (tK (.int 1)))) (tBin (opB .Mult) (tIx (tNm 2) (tK (.int 0))) (tNm 6)))) (sSet 2 (tTup (tACons (tNm 5) (tACons (tNm 6) (tACons (tNm 3) (tAOne (tNm 4))))))) B__law_densest_1)
def B__law_densest_3 : TSp :=
  (sIf (tAnd (tCmpT .Gt (tNm 5) (tK (.int 0))) (tCmpT .Is (tNm 2) (tK .non))) (sSet 2 (tTup (tACons (tNm 5) (tACons (tNm 6) (tACons (tNm 3) (tAOne (tNm 4))))))) B__law_densest_2)
def B__law_densest_4 : TSp :=
  (sSeq (sSet 6 (tCb (cD1 fSum) (tAOne (tLc' (iAny (tCall φ__law_inside [false, false, false] [] (tACons (tNm 0) (tACons (tNm 3) (tAOne (tNm 4)))))) (.tp [.nm 8, .nm 9]) tYes' (tBin (opB .Sub) (tNmC 9) (tNmC 8)) [8, 9]))))
    B__law_densest_3)
def B__law_densest_5 : TSp :=
  (sSeq (sSet 5 (tCb (cD1 fSum) (tAOne (tLc' (iAny (tNm 1)) (.nm 7) (tAnd (tCmpT .LtE (tNm 3) (tIx (tNmC 7) (tK (.int 0)))) (tCmpT .LtE (tIx (tNmC 7) (tK (.int 1))) (tNm 4))) (tIx (tIx (tNmC 7) (tK (.int 2))) (tK (.int 3))) [7]))))
    B__law_densest_4)
def B__law_densest_6 : TSp :=
  (sFor (iAny (tCb cSort (tAOne (tLc' (iAny (tNm 1)) (.nm 7) tYes' (tIx (tNmC 7) (tK (.int 1))) [7])))) (.nm 4) B__law_densest_5)
def B__law_densest_7 : TSp :=
  (sSeq (sFor (iAny (tCb cSort (tAOne (tLc' (iAny (tNm 1)) (.nm 7) tYes' (tIx (tNmC 7) (tK (.int 0))) [7])))) (.nm 3) B__law_densest_6)
    (sRet (tNm 2)))
def T__law_densest : TSp :=
  (sSeq (sSet 2 (tK .non))
    B__law_densest_7)
def φ__law_densest : Fn := fun cs R0 _ => ∃ (m : Nat) (fr : List Iv) (js : List Job), cs = [Fz (.lst (fr.map ivD)), Fz (.lst ((rlsOf fr js).map rlD))] ∧ fr.length ≤ 10000 ∧ js.length < 64 ∧ RsOk fr js ∧ m ≤ 400000 ∧ (∀ a b, Bs m (ld (rowsOf fr js) a b)) ∧ (∀ a b, Bs m (ln fr a b)) ∧
  ∀ best, BestOf (rowsOf fr js) fr (Pairs (rowsOf fr js)) best → R0 (Fz (bstD best)) [.no, .no]
section
variable {fr : List Iv} {js : List Job}
abbrev ldE (fr : List Iv) (js : List Job) (best : Option (Int × Int × Int × Int)) (c3 c4 c5 c6 c7 c8 c9 : Ct) : En := [Fz (.lst (fr.map ivD)), Fz (.lst ((rlsOf fr js).map rlD)), Fz (bstD best), c3, c4, c5, c6, c7, c8, c9]
theorem ldens_body {m : Nat} {a b : Int} {P : Int → Int → Prop} {best : Option (Int × Int × Int × Int)} {EE : Ep} {K : En → Prop} {c5 c6 : Ct} (hfl : fr.length ≤ 10000) (hjl : js.length < 64) (h : RsOk fr js) (hm : m ≤ 400000) (hld : ∀ a b, Bs m (ld (rowsOf fr js) a b)) (hln : ∀ a b, Bs m (ln fr a b))
    (hb : BestOf (rowsOf fr js) fr P best) (hord : ∀ x y, P x y → x < a ∨ x = a) (hK : ∀ best c5 c6, BestOf (rowsOf fr js) fr (fun x y => P x y ∨ (x = a ∧ y = b)) best → K (ldE fr js best (Fz (.int a)) (Fz (.int b)) c5 c6 .no .no .no)) :
    B__law_densest_5 (ldE fr js best (Fz (.int a)) (Fz (.int b)) c5 c6 .no .no .no) (EE.lp K) := by
  have hrl : (rlsOf fr js).length < 64 := by unfold rlsOf; rw [List.length_map]; omega
  have ejb : ∀ j : Job, jbD j = .tup [.str j.nm, .int j.c, .int j.d, .int j.w] := fun _ => rfl
  have c1 : ∀ (EX : Exn → En → Prop) (RR : R → En → Prop), RR (.va (Wl ((rlsOf fr js).flatMap fun p => if (decide (a ≤ p.1.f) && decide (p.1.l ≤ b)) = true then [D.int p.2.w] else []))) (ldE fr js best (Fz (.int a)) (Fz (.int b)) c5 c6 .no .no .no) →
      lcK (.nm 7) (tAnd (tCmpT .LtE (tNm 3) (tIx (tNmC 7) (tK (.int 0)))) (tCmpT .LtE (tIx (tNmC 7) (tK (.int 1))) (tNm 4))) (tIx (tIx (tNmC 7) (tK (.int 2))) (tK (.int 3))) [7] EX RR ((rlsOf fr js).map rlD) [] (ldE fr js best (Fz (.int a)) (Fz (.int b)) c5 c6 .no .no .no) := by
    intro EX RR hRR
    refine lc_pure (f := rlD) (fun p : Row × Job => if (decide (a ≤ p.1.f) && decide (p.1.l ≤ b)) = true then [D.int p.2.w] else []) _ (fun _ => True) ?_ (fun r => by split <;> simp) (rlsOf fr js) [] (fun _ _ => trivial) (line_small (by rw [List.length_nil]; omega)) (by rw [List.nil_append]; exact hRR)
    intro p acc K' _ hacc hK
    have er : rlD p = .tup [.int p.1.f, .int p.1.l, jbD p.2] := rfl
    unfold ldE at hK ⊢
    rw [er, ejb]
    walk_at "pm"
    by_cases h1 : a ≤ p.1.f
    · rw [if_pos h1]
      by_cases h2 : p.1.l ≤ b
      · rw [if_pos h2]
        rw [if_pos (by simp [h1, h2])] at hK
        exact ⟨hacc, hK⟩
      · rw [if_neg h2]
        rw [if_neg (by simp [h2]), List.append_nil] at hK
        exact hK
    · rw [if_neg h1]
      rw [if_neg (by simp [h1]), List.append_nil] at hK
      exact hK
  have c2 : ∀ (c5 : Ct) (EX : Exn → En → Prop) (RR : R → En → Prop), RR (.va (Wl ((fp fr a b).flatMap fun p => [D.int (p.2 - p.1)]))) (ldE fr js best (Fz (.int a)) (Fz (.int b)) c5 c6 .no .no .no) →
      lcK (.tp [.nm 8, .nm 9]) tYes' (tBin (opB .Sub) (tNmC 9) (tNmC 8)) [8, 9] EX RR ((fp fr a b).map ivD) [] (ldE fr js best (Fz (.int a)) (Fz (.int b)) c5 c6 .no .no .no) := by
    intro c5 EX RR hRR
    have hfl2 := fp_len (fr := fr) (b := a) (e := b)
    refine lc_pure (f := ivD) (fun p : Iv => [D.int (p.2 - p.1)]) _ (fun _ => True) ?_ (fun r => by simp) (fp fr a b) [] (fun _ _ => trivial) (line_small (by rw [List.length_nil]; omega)) (by rw [List.nil_append]; exact hRR)
    intro p acc K' _ hacc hK
    have er : ivD p = .tup [.int p.1, .int p.2] := rfl
    unfold ldE at hK ⊢
    rw [er]
    walk_at "pm"
    exact ⟨hacc, hK⟩
  unfold B__law_densest_5
  unfold ldE at c1 c2 hK ⊢
  walk_at "pm"
  refine c1 _ _ ?_
  walk_at "pm"
  rw [rls_w]
  walk_at "pm"
  have eld : (((rowsOf fr js).filter fun r => decide (a ≤ r.f ∧ r.l ≤ b)).map (·.w)).sum = ld (rowsOf fr js) a b := rfl
  rw [eld]
  unfold B__law_densest_4
  walk_at "pm"
  refine ⟨fr, a, b, rfl, hfl, ?_⟩
  walk_at "pm"
  refine c2 _ _ _ ?_
  walk_at "pm"
  rw [ints_len]
  walk_at "pm"
  have eln : ((fp fr a b).map fun p => p.2 - p.1).sum = ln fr a b := rfl
  rw [eln]
  unfold B__law_densest_3
  cases best with
  | none =>
    have eb : bstD none = .non := rfl
    rw [eb]
    walk_at "pm"
    by_cases hl : 0 < ld (rowsOf fr js) a b
    · rw [if_pos (by omega)]
      exact hK _ _ _ (best_take h hb hl fun _ _ _ _ z => by cases z)
    · rw [if_neg (by omega)]
      unfold B__law_densest_2
      walk_at "pm"
      rw [if_neg (by omega)]
      unfold B__law_densest_1
      walk_at "pm"
      rw [if_neg (by omega)]
      exact hK _ _ _ (best_keep hb fun ho => absurd ho hl)
  | some q =>
    obtain ⟨L, N, a', b'⟩ := q
    have eb : bstD (some (L, N, a', b')) = .tup [.int L, .int N, .int a', .int b'] := rfl
    obtain ⟨b1, b2, b3, b4, b5⟩ := id hb
    have hKn := fun c5 c6 best hb => hK best c5 c6 hb
    rw [eb]
    walk_at "pm"
    unfold B__law_densest_2
    by_cases hl : 0 < ld (rowsOf fr js) a b
    · rw [if_pos (by omega)]
      have k1 : MulOk (ld (rowsOf fr js) a b) N := Bs.mulOk (hld a b) (by rw [b4]; exact hln _ _) (by omega)
      have k2 : MulOk L (ln fr a b) := Bs.mulOk (by rw [b3]; exact hld _ _) (hln a b) (by omega)
      walk_at "pm"
      rw [if_pos (by omega)]
      refine ⟨k1, k2, ?_⟩
      by_cases hc : L * ln fr a b < ld (rowsOf fr js) a b * N
      · rw [if_pos hc]
        refine hK _ _ _ (best_take h hb hl fun _ _ _ _ z => ?_)
        cases z
        left
        rw [← b3, ← b4]; exact hc
      · rw [if_neg hc]
        unfold B__law_densest_1
        walk_at "pm"
        rw [if_pos (by omega)]
        refine ⟨k1, k2, ?_⟩
        have kp : (ld (rowsOf fr js) a b * N = L * ln fr a b → a = a' → b ≤ b') → BestOf (rowsOf fr js) fr (fun x y => P x y ∨ (x = a ∧ y = b)) (some (L, N, a', b')) := fun hx => by
          refine best_keep hb fun _ => ⟨_, _, _, _, rfl, ?_⟩
          by_cases hlt : ld (rowsOf fr js) a b * ln fr a' b' < ld (rowsOf fr js) a' b' * ln fr a b
          · exact .inl hlt
          · right
            rw [← b3, ← b4] at hlt ⊢
            have he : ld (rowsOf fr js) a b * N = L * ln fr a b := by omega
            refine ⟨he, ?_⟩
            rcases hord _ _ b1 with z | z
            · exact .inl z
            · exact .inr ⟨z, hx he z.symm⟩
        by_cases he : ld (rowsOf fr js) a b * N = L * ln fr a b
        · rw [if_pos (by simpa using he)]
          by_cases ha : a = a'
          · rw [if_pos (by simpa using ha)]
            by_cases hbb : b' < b
            · rw [if_pos hbb]
              refine hK _ _ _ (best_take h hb hl fun _ _ _ _ z => ?_)
              cases z
              right
              rw [← b3, ← b4]
              exact ⟨he.symm, .inr ⟨ha, by omega⟩⟩
            · rw [if_neg hbb]
              exact hK _ _ _ (kp fun _ _ => by omega)
          · rw [if_neg (by simpa using ha)]
            exact hK _ _ _ (kp fun _ z => absurd z ha)
        · rw [if_neg (by simpa using he)]
          exact hK _ _ _ (kp fun z => absurd z he)
    · rw [if_neg (by omega)]
      walk_at "pm"
      rw [if_neg (by omega)]
      unfold B__law_densest_1
      walk_at "pm"
      rw [if_neg (by omega)]
      exact hK _ _ _ (best_keep hb fun ho => absurd ho hl)
theorem ldens_in {m : Nat} {a : Int} {P : Int → Int → Prop} {best : Option (Int × Int × Int × Int)} {EE : Ep} {c4 c5 c6 : Ct} (hfl : fr.length ≤ 10000) (hjl : js.length < 64) (h : RsOk fr js) (hm : m ≤ 400000) (hld : ∀ a b, Bs m (ld (rowsOf fr js) a b)) (hln : ∀ a b, Bs m (ln fr a b))
    (hb : BestOf (rowsOf fr js) fr P best) (hord : ∀ x y, P x y → x < a ∨ x = a) (bs : List Int) (hK : ∀ best c4 c5 c6, BestOf (rowsOf fr js) fr (fun x y => P x y ∨ (x = a ∧ y ∈ bs)) best → EE.nx (ldE fr js best (Fz (.int a)) c4 c5 c6 .no .no .no)) :
    forK (.nm 4) B__law_densest_5 (bs.map .int) (ldE fr js best (Fz (.int a)) c4 c5 c6 .no .no .no) EE := by
  refine for_ind (f := D.int) (fun r2 ρ => ∃ (pre : List Int) (best : Option (Int × Int × Int × Int)) (c4 c5 c6 : Ct), ρ = ldE fr js best (Fz (.int a)) c4 c5 c6 .no .no .no ∧ bs = pre ++ r2 ∧ BestOf (rowsOf fr js) fr (fun x y => P x y ∨ (x = a ∧ y ∈ pre)) best) ?_ ?_ bs _ ⟨[], best, c4, c5, c6, rfl, rfl, hb.cg fun x y => by simp⟩
  · rintro b r2 ρ K ⟨pre, best, c4, c5, c6, rfl, hpre, hb⟩ hK
    unfold ldE
    walk_at "pm"
    refine ldens_body hfl hjl h hm hld hln hb (fun x y hxy => ?_) fun best c5 c6 hb' => hK _ ⟨pre ++ [b], best, _, c5, c6, rfl, by rw [hpre, List.append_assoc]; rfl, hb'.cg fun x y => ?_⟩
    · rcases hxy with hxy | ⟨e, hy⟩
      · exact hord x y hxy
      · exact .inr e
    · simp only [List.mem_append, List.mem_singleton]
      constructor
      · rintro ((q | ⟨q1, q2⟩) | ⟨q1, q2⟩)
        · exact .inl q
        · exact .inr ⟨q1, .inl q2⟩
        · exact .inr ⟨q1, .inr q2⟩
      · rintro (q | ⟨q1, q2 | q2⟩)
        · exact .inl (.inl q)
        · exact .inl (.inr ⟨q1, q2⟩)
        · exact .inr ⟨q1, q2⟩
  · rintro ρ ⟨pre, best, c4, c5, c6, rfl, hpre, hb⟩
    rw [List.append_nil] at hpre
    subst hpre
    exact hK _ _ _ _ hb
theorem lcol0 {c2 c3 c4 c5 c6 c8 c9 : Ct} (hjl : js.length < 64) (EX : Exn → En → Prop) (RR : R → En → Prop)
    (hRR : RR (.va (Wl (((rowsOf fr js).map (·.f)).map .int))) [Fz (.lst (fr.map ivD)), Fz (.lst ((rlsOf fr js).map rlD)), c2, c3, c4, c5, c6, .no, c8, c9]) : lcK (.nm 7) tYes' (tIx (tNmC 7) (tK (.int 0))) [7] EX RR ((rlsOf fr js).map rlD) [] [Fz (.lst (fr.map ivD)), Fz (.lst ((rlsOf fr js).map rlD)), c2, c3, c4, c5, c6, .no, c8, c9] := by
  have hrl : (rlsOf fr js).length < 64 := by unfold rlsOf; rw [List.length_map]; omega
  have el : (rlsOf fr js).map (fun p => D.int p.1.f) = ((rowsOf fr js).map (·.f)).map .int := by rw [← rls_fst, List.map_map, List.map_map]; rfl
  refine lc_pure (f := rlD) (fun p : Row × Job => [D.int p.1.f]) _ (fun _ => True) ?_ (fun r => by simp) (rlsOf fr js) [] (fun _ _ => trivial) (line_small (by rw [List.length_nil]; omega)) (by rw [List.nil_append, flat1, el]; exact hRR)
  intro p acc K' _ hacc hK
  have er : rlD p = .tup [.int p.1.f, .int p.1.l, jbD p.2] := rfl
  rw [er]
  walk_at "pm"
  exact ⟨hacc, hK⟩
theorem lcol1 {c2 c3 c4 c5 c6 c8 c9 : Ct} (hjl : js.length < 64) (EX : Exn → En → Prop) (RR : R → En → Prop)
    (hRR : RR (.va (Wl (((rowsOf fr js).map (·.l)).map .int))) [Fz (.lst (fr.map ivD)), Fz (.lst ((rlsOf fr js).map rlD)), c2, c3, c4, c5, c6, .no, c8, c9]) : lcK (.nm 7) tYes' (tIx (tNmC 7) (tK (.int 1))) [7] EX RR ((rlsOf fr js).map rlD) [] [Fz (.lst (fr.map ivD)), Fz (.lst ((rlsOf fr js).map rlD)), c2, c3, c4, c5, c6, .no, c8, c9] := by
  have hrl : (rlsOf fr js).length < 64 := by unfold rlsOf; rw [List.length_map]; omega
  have el : (rlsOf fr js).map (fun p => D.int p.1.l) = ((rowsOf fr js).map (·.l)).map .int := by rw [← rls_fst, List.map_map, List.map_map]; rfl
  refine lc_pure (f := rlD) (fun p : Row × Job => [D.int p.1.l]) _ (fun _ => True) ?_ (fun r => by simp) (rlsOf fr js) [] (fun _ _ => trivial) (line_small (by rw [List.length_nil]; omega)) (by rw [List.nil_append, flat1, el]; exact hRR)
  intro p acc K' _ hacc hK
  have er : rlD p = .tup [.int p.1.f, .int p.1.l, jbD p.2] := rfl
  rw [er]
  walk_at "pm"
  exact ⟨hacc, hK⟩
theorem ldens_out {m : Nat} {EE : Ep} {c3 c4 c5 c6 : Ct} (hfl : fr.length ≤ 10000) (hjl : js.length < 64) (h : RsOk fr js) (hm : m ≤ 400000) (hld : ∀ a b, Bs m (ld (rowsOf fr js) a b)) (hln : ∀ a b, Bs m (ln fr a b))
    (hK : ∀ best c3 c4 c5 c6, BestOf (rowsOf fr js) fr (Pairs (rowsOf fr js)) best → EE.nx (ldE fr js best c3 c4 c5 c6 .no .no .no)) :
    forK (.nm 3) B__law_densest_6 ((srt ((rowsOf fr js).map (·.f))).map .int) (ldE fr js none c3 c4 c5 c6 .no .no .no) EE := by
  have hrl : (rlsOf fr js).length < 64 := by unfold rlsOf; rw [List.length_map]; omega
  have has : (srt ((rowsOf fr js).map (·.f))).Pairwise (fun x y => x ≤ y) := srt_sorted _
  have memA : ∀ x, x ∈ srt ((rowsOf fr js).map (·.f)) ↔ ∃ r ∈ rowsOf fr js, r.f = x := fun x => by rw [(srt_perm _).mem_iff, List.mem_map]
  have memB : ∀ x, x ∈ (srt ((rowsOf fr js).map (·.l))) ↔ ∃ r ∈ rowsOf fr js, r.l = x := fun x => by rw [(srt_perm _).mem_iff, List.mem_map]
  generalize srt ((rowsOf fr js).map (·.f)) = as at *
  refine for_ind (f := D.int) (fun r2 ρ => ∃ (pre : List Int) (best : Option (Int × Int × Int × Int)) (c3 c4 c5 c6 : Ct), ρ = ldE fr js best c3 c4 c5 c6 .no .no .no ∧ as = pre ++ r2 ∧ BestOf (rowsOf fr js) fr (fun x y => x ∈ pre ∧ ∃ r ∈ rowsOf fr js, r.l = y) best) ?_ ?_ as _ ⟨[], none, c3, c4, c5, c6, rfl, rfl, fun a b z => by simp at z⟩
  · rintro a r2 ρ K ⟨pre, best, c3, c4, c5, c6, rfl, hpre, hb⟩ hK
    have hlt : ∀ y ∈ pre, y ≤ a := fun y hy => by
      rw [hpre, List.pairwise_append] at has
      exact has.2.2 y hy a (by simp)
    unfold B__law_densest_6 ldE
    walk_at "pm"
    refine lcol1 hjl _ _ ?_
    walk_at "pm"
    rw [ints_map]
    walk_at "pm"
    refine ldens_in hfl hjl h hm hld hln hb (fun x y hxy => by have := hlt x hxy.1; omega) _ fun best c4 c5 c6 hb' => hK _ ⟨pre ++ [a], best, _, c4, c5, c6, rfl, by rw [hpre, List.append_assoc]; rfl, hb'.cg fun x y => ?_⟩
    simp only [List.mem_append, List.mem_singleton, memB]
    constructor
    · rintro (⟨q1, q2⟩ | ⟨q1, q2⟩)
      · exact ⟨.inl q1, q2⟩
      · exact ⟨.inr q1, q2⟩
    · rintro ⟨q1 | q1, q2⟩
      · exact .inl ⟨q1, q2⟩
      · exact .inr ⟨q1, q2⟩
  · rintro ρ ⟨pre, best, c3, c4, c5, c6, rfl, hpre, hb⟩
    rw [List.append_nil] at hpre
    subst hpre
    exact hK _ _ _ _ _ (hb.cg fun x y => by rw [memA]; rfl)
theorem sp__law_densest (cs : List Ct) (R0 : Ct → List Ct → Prop) (E0 : Exn → List Ct → Prop) : φ__law_densest cs R0 E0 → fnOf 8 [] T__law_densest cs R0 E0 := by
  rintro ⟨m, fr, js, rfl, hfl, hjl, h, hm, hld, hln, hR⟩
  rw [fnOf_eq]
  refine ⟨noOw _ rfl, ?_⟩
  unfold T__law_densest B__law_densest_7
  walk_at "pm"
  refine lcol0 hjl _ _ ?_
  walk_at "pm"
  rw [ints_map]
  walk_at "pm"
  refine ldens_out (c3 := .no) (c4 := .no) (c5 := .no) (c6 := .no) hfl hjl h hm hld hln fun best c3 c4 c5 c6 hb => ?_
  unfold ldE
  walk_at "pm"
  exact hR best hb
end
end Pm

namespace Pm
open PySem PySem.Spec PyProof.Rows L2
local macro_rules | `(tactic| walk_at "pm") => `(tactic| simp only [e_fd, fd_ob, fd_fz, fd_ow, fd_dk, lk_hit, lk_miss, lk_nil, pt_hit, pt_miss, pt_nil, nA_alf, vw_alf, af_ob, fcD_fz, fcD_ow, fcD_dk, cf_alf, cf_al, cf_va, afF_ob, alF_at, fzC_alf, afZ_ob, afZ_fz, afZ_ow, stC_alf, e_sFd, sfd_at, e_me, me_ob, oN_none, isOw_ob, e_mk, hd_cons, e_muR, muR1_ow, muR2_ow, isPl_al, isPl_alf, setR_al, setR_alf, setRf_ob, e_dn, e_dkK, dk1_dk, dk2_k, kD_int, kD_str, e_dg, e_di, e_diT, e_dp, e_keyK, e_dcc, dc_nil, dc_cons, e_srt, seqD_l, seqD_t, e_rev, f_lcm, c_inT, c_ninT, nq_1, nq_2, nq_3, nq_4, nq_5, nq_6, nq_7, Bool.false_bne, Bool.true_bne, e_lcO, e_mth, e_mth0, tyK_lst, tyK_str, tyD_lst, tyD_str, f_index, e_iEnum, enK_one, walkE_lst, walkE_tup, e_cSort, srtK_lst, f_maxL, f_minL, shp_rqs, any_rq, sz0, sz1, sz2, sz3, sz4, sz5, sz6, sz7, sz8, ix_pt0, ix_pt1, true_false_F, c_eqB, c_neB, sq_nx, ix_rq0, ix_rq1, c_eqR, c_neR, c_eqR0, c_neR0, isNon_rq, shp_rqT, clsD_rq_tuple, f_len_rq, e_iAny, walkA_lst, walkA_tup, e_oNone, e_oSome, oiK_int, e_slice, sl_lstD, sl_tupD, sl_strD, intK_int, e_chG, e_chT_le_lt, e_chT_lt_le, e_chT_le_le, e_chT_lt_lt, e_ch_le_lt, e_ch_lt_le, e_ch_le_le, e_ch_lt_lt, f_sum, f_all, f_any, e_mu, muN_ow, muK_ow, f_app, f_ext, f_pop, f_ins, sq_rt, sq_bk, sq_ct, sq_ex, lp_nx, lp_ct, lp_bk, lp_rt, lp_ex, fn_nx, fn_rt, fn_ex, oD_some, oD_none, e_nm, nm_fz, nm_ow, nm_dk, e_nmC, nmc_fz, e_K, vw_fz, vw_ow, vw_al, alV_fz, alV_ow, nA_va, nA_al, fzC_fz, fzC_ow, fzC_al, alZ_fz, alZ_ow, stC_va, stC_al, fzL_nil, fzL_cons, e_fzK, b_addI, b_addS, b_addL, b_addT, b_sub, b_mul, b_div, b_mod, b_pow, c_lt, c_le, c_gt, c_ge, c_eqS, c_neS, c_eqI, c_neI, c_eqT, c_neT, c_eqL, c_neL, c_is, c_isn, c_in, c_nin, isNon_non, isNon_int, isNon_str, isNon_tup, isNon_lst, isNon_bl, shp_intT, shp_nonT, shp_blT, shp_ratT, eqD_rat, e_bin, e_cmp, e_cmpT, e_tru, tru_bl, tru_int, tru_non, tru_lst, tru_tup, tru_str, trs_bl, trs_int, trs_non, trs_lst, trs_tup, trs_str, e_and, e_or, e_not, e_yes, isB_bl, e_andV, e_orV, e_notV, e_ifE, e_neg, neg_int, e_aNil, e_aOne, e_aCons, e_tup, e_lst, e_ix, ix_tupD, ix_lstD, ix_strD, e_isi, e_cb, e_cD1, e_cD2, e_list, list_tup, list_lst, list_scr, e_tuple, tup_tup, tup_lst, f_len_tup, f_len_lst, f_len_scr, f_len_str, f_int, f_abs, f_gcd, f_max, f_min, e_call, e_callK, fzM_nil, fzM_f, fzM_t, isOw_fz, isOw_ow, isOw_no, isOw_dk, brs_nil, brs_l, brs_r, cts_nil, cts_l, cts_r, wb_nil, wb_l, wb_r, outs_nil, outs_cons, ret_va, ret_al, e_sNil, e_seq, e_pass, e_brk, e_cnt, e_never, e_ret, e_retN, e_exp, e_if, e_set, e_aug, aug_int, augK_int, e_par, par_2, e_asg, e_sub, subN_ow, subK_ow, e_for, for_nil, for_cons, tg_nm, tg_tp, tgs_nil, tgs_cons, e_rng1, e_rng2, rngL1_1, rngL2_2, rngK1_int, rngK2_int, e_iLst, e_iTup, walkL_lst, walkT_tup, e_lc, lc_nil, lc_cons, wipeE_nil, wipeE_cons, clsD_int_int, clsD_int_bool, clsD_int_str, clsD_int_tuple, clsD_str_str, clsD_str_tuple, clsD_str_int, clsD_tup_tuple, clsD_tup_str, clsD_tup_int, clsD_non_tuple, clsD_non_str, clsD_non_int, clsD_bl_bool, clsD_bl_int, clsD_bl_tuple, atI_0, atI_1, atI_2, atI_3, atI_4, ixN5_0, ixN5_1, ixN5_2, ixN5_3, ixN5_4, List.map_cons, List.map_nil, List.cons_append, List.nil_append, List.append_nil, List.replicate, List.getElem?_cons_zero, List.getElem?_cons_succ, List.getD_cons_zero, List.getD_cons_succ, List.set_cons_zero, List.set_cons_succ, Option.bind_some, Option.bind_none, List.length_cons, List.length_nil, if_true, if_false, Bool.false_eq_true, Bool.not_true, Bool.not_false, Bool.not_eq_true', decide_eq_true_eq, decide_eq_false_iff_not, and_true, true_and, List.mem_cons, List.not_mem_nil, or_false, forall_eq, false_imp_iff, implies_true, List.nodup_nil, List.nodup_cons, not_false_eq_true, List.isEmpty_cons, List.isEmpty_nil, List.tail_cons, List.tail_nil])
def MM : Int := 1000000000
theorem MM_eq : (10 : Int) ^ (9 : Int).toNat = MM := by decide
theorem nmsL_map {fr : List Iv} {js : List Job} {a b : Int} : ((rlsOf fr js).flatMap fun p => if (decide (a ≤ p.1.f) && decide (p.1.l ≤ b)) = true then [D.str p.2.nm] else []) = (((rowsOf fr js).filter (inR a b)).map (·.nm)).map .str := by
  have : ((rlsOf fr js).flatMap fun p => if (decide (a ≤ p.1.f) && decide (p.1.l ≤ b)) = true then [D.str p.2.nm] else []) = ((rowsOf fr js).flatMap fun r => if (decide (a ≤ r.f) && decide (r.l ≤ b)) = true then [D.str r.nm] else []) := by
    unfold rlsOf rowsOf
    rw [List.flatMap_map, List.flatMap_map]
    rfl
  rw [this, nms_map]
def B__law_rounds_1 : TSp :=
  (sSeq (sSet 6 (tCall φ__law_inside [false, false, false] [] (tACons (tNm 2) (tACons (tIx (tNmC 14) (tK (.int 1))) (tAOne (tIx (tNmC 14) (tK (.int 2))))))))
    (sExp (tMu 5 fApp (tAOne (tTup (tACons (tIx (tIx (tNm 6) (tK (.int 0))) (tK (.int 0))) (tACons (tIx (tIx (tNm 6) (tNeg (tK (.int 1)))) (tK (.int 1))) (tAOne (tNmC 14)))))))))
def B__law_rounds_2 : TSp :=
  (sSeq (sSet 1 (tLc' (iAny (tNm 1)) (.nm 14) (tCmpT .NotIn (tIx (tNmC 14) (tK (.int 0))) (tNm 11)) (tNmC 14) [14]))
    (sSet 2 (tBin (opB .Add) (tCall φ__law_inside [false, false, false] [] (tACons (tNm 2) (tACons (tK (.int 0)) (tAOne (tNm 9))))) (tCall φ__law_inside [false, false, false] [] (tACons (tNm 2) (tACons (tNm 10) (tAOne (tBin (opB .Pow) (tK (.int 10)) (tK (.int 9))))))))))
def B__law_rounds_3 : TSp :=
  (sSeq (sExp (tMu 3 fApp (tAOne (tTup (tACons (tCall φ__law_ratio [false, false] [] (tACons (tNm 7) (tAOne (tNm 8)))) (tACons (tCb cTuple (tAOne (tNm 11))) (tACons (tNm 12) (tACons (tNm 9) (tAOne (tNm 10))))))))))
    B__law_rounds_2)
def B__law_rounds_4 : TSp :=
  (sSeq (sSet 12 (tCb cTuple (tAOne (tCall φ__law_inside [false, false, false] [] (tACons (tNm 2) (tACons (tNm 9) (tAOne (tNm 10))))))))
    B__law_rounds_3)
def B__law_rounds_5 : TSp :=
  (sSeq (sSet 11 (tLc' (iAny (tNm 5)) (.nm 13) (tAnd (tCmpT .LtE (tNm 9) (tIx (tNmC 13) (tK (.int 0)))) (tCmpT .LtE (tIx (tNmC 13) (tK (.int 1))) (tNm 10))) (tIx (tIx (tNmC 13) (tK (.int 2))) (tK (.int 0))) [13]))
    B__law_rounds_4)
def B__law_rounds_6 : TSp :=
  (sSeq (sAsg (.tp [.nm 7, .nm 8, .nm 9, .nm 10]) (tCall φ__law_densest [false, false] [] (tACons (tNm 2) (tAOne (tNm 5)))))
    B__law_rounds_5)
def B__law_rounds_7 : TSp :=
  (sSeq (sFor (iAny (tNm 1)) (.nm 14) B__law_rounds_1)
    B__law_rounds_6)
def B__law_rounds_8 : TSp :=
  (sSeq (sSet 5 (tLst tANil))
    B__law_rounds_7)
def B__law_rounds_9 : TSp :=
  (sIf (tCmpT .Gt (tCb (cD1 fLen) (tAOne (tNm 1))) (tK (.int 0))) B__law_rounds_8 sNil)
def B__law_rounds_10 : TSp :=
  (sSeq (sFor (iRng1 (tAOne (tCb (cD1 fLen) (tAOne (tNm 0))))) (.nm 4) B__law_rounds_9)
    (sRet (tNm 3)))
def B__law_rounds_11 : TSp :=
  (sSeq (sSet 3 (tLst tANil))
    B__law_rounds_10)
def B__law_rounds_12 : TSp :=
  (sSeq (sSet 2 (tLst (tAOne (tTup (tACons (tK (.int 0)) (tAOne (tBin (opB .Pow) (tK (.int 10)) (tK (.int 9)))))))))
    B__law_rounds_11)
def T__law_rounds : TSp :=
  (sSeq (sSet 1 (tCb cList (tAOne (tNm 0))))
    B__law_rounds_12)
def φ__law_rounds : Fn := fun cs R0 _ => ∃ (js : List Job), cs = [Fz (.tup (js.map jbD))] ∧ JsOk js ∧ ∀ rs, Rnds js [(0, MM)] rs → R0 (Wl (rs.map (rdD 1))) [.no]
structure LrI (js0 : List Job) (k : Nat) (js : List Job) (fr : List Iv) (done : List Rd) : Prop where
  ok : RsOk fr js
  rel : ∀ rs, Rnds js fr rs → Rnds js0 [(0, MM)] (done ++ rs)
  cnt : done.length + js.length ≤ 13
  left : js.length + k ≤ js0.length
  fl : fr.length ≤ 2 ^ done.length
  fb : ∀ p ∈ fr, p.2 ≤ MM
  le : lastE fr = MM
  ne : fr ≠ []
  wt : wtot js ≤ 600000
  jb : ∀ j ∈ js, 0 ≤ j.c ∧ j.c < j.d ∧ j.d ≤ 20000 ∧ PyData.strOk j.nm = true
section
variable {js0 js : List Job} {k : Nat} {fr : List Iv} {done : List Rd} {EE : Ep} {K : En → Prop}
abbrev lrE (js0 : List Job) (c1 c2 : Ct) (done : List Rd) (c4 c5 c6 c7 c8 c9 c10 c11 c12 c13 c14 : Ct) : En := [Fz (.tup (js0.map jbD)), c1, c2, Wl (done.map (rdD 1)), c4, c5, c6, c7, c8, c9, c10, c11, c12, c13, c14]
theorem LrI.fl2 (h : LrI js0 k js fr done) : fr.length ≤ 10000 := by
  have h1 := h.fl
  have h2 := h.cnt
  have h3 : (2 : Nat) ^ done.length ≤ 2 ^ 13 := Nat.pow_le_pow_right (by omega) (by omega)
  have : (2 : Nat) ^ 13 = 8192 := by decide
  omega
theorem LrI.bln (h : LrI js0 k js fr done) (a b : Int) : Bs 40 (ln fr a b) := by
  have h1 := ln_le h.ok.fo (M := MM) (by decide) h.fb (a := a) (b := b)
  have h2 := ln_nonneg (fr := fr) (a := a) (b := b)
  unfold Bs
  have : (2 : Nat) ^ 40 = 1099511627776 := by decide
  have : MM = 1000000000 := rfl
  omega
theorem LrI.bld (h : LrI js0 k js fr done) (a b : Int) : Bs 40 (ld (rowsOf fr js) a b) := by
  have h1 := ld_le (fr := fr) h.ok.pos (a := a) (b := b)
  have h2 := ld_nn h.ok (a := a) (b := b)
  have h3 := h.wt
  unfold Bs
  have : (2 : Nat) ^ 40 = 1099511627776 := by decide
  omega
theorem lr_rows {c4 c6 c7 c8 c9 c10 c11 c12 c13 c14 : Ct} (h : LrI js0 k js fr done) (hK : ∀ c6 c14, EE.nx (lrE js0 (Fz (.lst (js.map jbD))) (Fz (.lst (fr.map ivD))) done c4 (Wl ((rlsOf fr js).map rlD)) c6 c7 c8 c9 c10 c11 c12 c13 c14)) (c2 : Ct) (hc2 : liC (fr.map ivD) c2) (hne : js ≠ []) :
    forK (.nm 14) B__law_rounds_1 (js.map jbD) (lrE js0 (Fz (.lst (js.map jbD))) c2 done c4 (Wl []) c6 c7 c8 c9 c10 c11 c12 c13 c14) EE := by
  have hfl := h.fl2
  have hcnt := h.cnt
  refine for_ind (f := jbD) (fun r2 ρ => ∃ (pre : List Job) (c2 c6 c14 : Ct), ρ = lrE js0 (Fz (.lst (js.map jbD))) c2 done c4 (Wl ((rlsOf fr pre).map rlD)) c6 c7 c8 c9 c10 c11 c12 c13 c14 ∧ liC (fr.map ivD) c2 ∧ js = pre ++ r2 ∧ (pre ≠ [] → c2 = Fz (.lst (fr.map ivD)))) ?_ ?_ js _ ⟨[], _, _, _, rfl, hc2, rfl, fun z => absurd rfl z⟩
  · rintro j r2 ρ K ⟨pre, c2, c6, c14, rfl, hc2, hpre, _⟩ hK
    have hj : j ∈ js := by rw [hpre]; simp
    have hne := fp_ne.mpr (h.ok.win j hj)
    have hlp : js.length = pre.length + (r2.length + 1) := by rw [hpre]; simp
    have ejb : jbD j = .tup [.str j.nm, .int j.c, .int j.d, .int j.w] := rfl
    have e1 : ivD ((fp fr j.c j.d).headD (0, 0)) = .tup [.int ((fp fr j.c j.d).headD (0, 0)).1, .int ((fp fr j.c j.d).headD (0, 0)).2] := rfl
    have e2 : ivD ((fp fr j.c j.d).getLastD (0, 0)) = .tup [.int ((fp fr j.c j.d).getLastD (0, 0)).1, .int ((fp fr j.c j.d).getLastD (0, 0)).2] := rfl
    have fin := hK (lrE js0 (Fz (.lst (js.map jbD))) (Fz (.lst (fr.map ivD))) done c4 (Wl ((rlsOf fr (pre ++ [j])).map rlD)) (Wl ((fp fr j.c j.d).map ivD)) c7 c8 c9 c10 c11 c12 c13 (Fz (jbD j))) ⟨pre ++ [j], _, _, _, rfl, .inr rfl, by rw [hpre, List.append_assoc]; rfl, fun _ => rfl⟩
    unfold rlsOf at fin
    rw [List.map_append, List.map_append] at fin
    unfold lrE at fin ⊢
    unfold B__law_rounds_1
    have wl : (((pre.map fun j => (rowOf fr j, j)).map rlD).length < sizeLine) := Nat.lt_of_lt_of_le (show _ < 2000 by rw [List.length_map, List.length_map]; omega) (line_small (by omega))
    rcases hc2 with rfl | rfl
    all_goals
      rw [ejb] at fin ⊢
      walk_at "pm"
      refine ⟨fr, _, _, rfl, hfl, ?_⟩
      walk_at "pm"
      rw [fi_iv0 hne, e1]
      walk_at "pm"
      rw [lastE_at hne, e2]
      walk_at "pm"
      exact ⟨wl, fin⟩
  · rintro ρ ⟨pre, c2, c6, c14, rfl, hc2, hpre, hf⟩
    rw [List.append_nil] at hpre
    subst hpre
    rw [hf hne]
    exact hK _ _
theorem lr_tail {L N a b : Int} {c4 c5 c6 c12 c13 c14 : Ct} (h : LrI js0 k js fr done) (hne : js ≠ []) (hb : BestOf (rowsOf fr js) fr (Pairs (rowsOf fr js)) (some (L, N, a, b)))
    (hK : ∀ js' fr' done' c1 c2 c4 c5 c6 c7 c8 c9 c10 c11 c12 c13 c14, LrI js0 (k + 1) js' fr' done' → liC (js'.map jbD) c1 → liC (fr'.map ivD) c2 → K (lrE js0 c1 c2 done' c4 c5 c6 c7 c8 c9 c10 c11 c12 c13 c14)) :
    B__law_rounds_2 (lrE js0 (Fz (.lst (js.map jbD))) (Fz (.lst (fr.map ivD))) (done ++ [Rd.mk L N a b (((rowsOf fr js).filter (inR a b)).map (·.nm)) (fp fr a b)]) c4 c5 c6 (Fz (.int L)) (Fz (.int N)) (Fz (.int a)) (Fz (.int b)) (Wl ((((rowsOf fr js).filter (inR a b)).map (·.nm)).map .str)) c12 c13 c14) (EE.lp K) := by
  have hfl := h.fl2
  have hcnt := h.cnt
  have hab := best_lt h.ok hb
  have hless := round_less hb
  have hnext := h.ok.next hb
  have hstr : ∀ s ∈ ((rowsOf fr js).filter (inR a b)).map (·.nm), PyData.strOk s = true := fun s hs => by
    obtain ⟨r, hr, rfl⟩ := List.mem_map.mp hs
    obtain ⟨j, hj, rfl⟩ := List.mem_map.mp (List.mem_filter.mp hr).1
    exact (h.jb j hj).2.2.2
  have hbM : b < MM := by
    obtain ⟨⟨_, ⟨q, hq, e2⟩⟩, _⟩ := id hb
    obtain ⟨j, hj, rfl⟩ := List.mem_map.mp hq
    have l := (rowOf_l h.ok.fo (h.ok.win j hj)).1
    have := (h.jb j hj).2.2.1
    have : MM = 1000000000 := rfl
    omega
  obtain ⟨le1, le2⟩ := lastE_ta h.ok.fo (a := a) (b := b) h.le h.ne hbM
  generalize hnm : ((rowsOf fr js).filter (inR a b)).map (·.nm) = nms at *
  have inv : LrI js0 (k + 1) (js.filter (outR nms)) (ta fr a b) (done ++ [Rd.mk L N a b nms (fp fr a b)]) := by
    refine ⟨hnext, fun rs hrs => ?_, by rw [List.length_append, List.length_singleton]; omega, by have := h.left; omega, ?_, fr_bd h.fb, le1, le2, Int.le_trans (wtot_filter h.ok.pos) h.wt, fun j hj => h.jb j (List.mem_filter.mp hj).1⟩
    · rw [List.append_assoc]
      refine h.rel _ ?_
      have := Rnds.cons hne hb (by rw [hnm]; exact hrs)
      rw [hnm] at this
      exact this
    · rw [List.length_append, List.length_singleton, Nat.pow_succ]
      unfold ta
      rw [List.length_append]
      have h1 := fp_len (fr := fr) (b := 0) (e := a)
      have h2 := fp_len (fr := fr) (b := b) (e := lastE fr)
      have := h.fl
      omega
  have comp : ∀ (c4 c5 c6 c12 c13 : Ct) (EX : Exn → En → Prop) (RR : R → En → Prop), RR (.va (Wl ((js.filter (outR nms)).map jbD))) (lrE js0 (Fz (.lst (js.map jbD))) (Fz (.lst (fr.map ivD))) (done ++ [Rd.mk L N a b nms (fp fr a b)]) c4 c5 c6 (Fz (.int L)) (Fz (.int N)) (Fz (.int a)) (Fz (.int b)) (Wl (nms.map .str)) c12 c13 .no) →
      lcK (.nm 14) (tCmpT .NotIn (tIx (tNmC 14) (tK (.int 0))) (tNm 11)) (tNmC 14) [14] EX RR (js.map jbD) [] (lrE js0 (Fz (.lst (js.map jbD))) (Fz (.lst (fr.map ivD))) (done ++ [Rd.mk L N a b nms (fp fr a b)]) c4 c5 c6 (Fz (.int L)) (Fz (.int N)) (Fz (.int a)) (Fz (.int b)) (Wl (nms.map .str)) c12 c13 .no) := by
    intro c4 c5 c6 c12 c13 EX RR hRR
    refine lc_pure (f := jbD) (fun j : Job => if (!decide (j.nm ∈ nms)) = true then [jbD j] else []) _ (fun j => j ∈ js) ?_ (fun r => by split <;> simp) js [] (fun j hj => hj) (line_small (by rw [List.length_nil]; omega)) ?_
    · intro j acc K' hj hacc hK
      have er : jbD j = .tup [.str j.nm, .int j.c, .int j.d, .int j.w] := rfl
      have sj := shp_strS (h.jb j hj).2.2.2
      have sl := shp_strL hstr
      unfold lrE at hK ⊢
      rw [er] at hK ⊢
      walk_at "pm"
      rw [any_strL]
      refine ⟨sj, sl, ?_⟩
      by_cases h1 : j.nm ∈ nms
      · rw [decide_eq_true h1] at hK ⊢
        rw [if_neg (by decide)] at hK ⊢
        rw [List.append_nil] at hK
        exact hK
      · rw [decide_eq_false h1] at hK ⊢
        rw [if_pos (by decide)] at hK ⊢
        exact ⟨hacc, hK⟩
    · rw [out_map, List.nil_append]; exact hRR
  unfold B__law_rounds_2
  unfold lrE at comp hK ⊢
  walk_at "pm"
  refine comp _ _ _ _ _ _ _ ?_
  walk_at "pm"
  refine ⟨fr, _, _, rfl, hfl, ?_⟩
  walk_at "pm"
  refine ⟨by decide, fr, _, _, rfl, hfl, ?_⟩
  rw [MM_eq]
  walk_at "pm"
  have h1 := fp_len (fr := fr) (b := 0) (e := a)
  have h2 := fp_len (fr := fr) (b := b) (e := MM)
  refine ⟨line_small (by rw [List.length_map, List.length_map]; omega), ?_⟩
  refine hK _ _ _ _ _ _ _ _ _ _ _ _ _ _ _ _ inv (.inl rfl) (.inl ?_)
  unfold ta
  rw [h.le, List.map_append]
theorem lr_body {c1 c2 c5 c6 c7 c8 c9 c10 c11 c12 c13 c14 : Ct} (hk : k < js0.length) (h : LrI js0 k js fr done) (h1 : liC (js.map jbD) c1) (h2 : liC (fr.map ivD) c2)
    (hK : ∀ js' fr' done' c1 c2 c4 c5 c6 c7 c8 c9 c10 c11 c12 c13 c14, LrI js0 (k + 1) js' fr' done' → liC (js'.map jbD) c1 → liC (fr'.map ivD) c2 → K (lrE js0 c1 c2 done' c4 c5 c6 c7 c8 c9 c10 c11 c12 c13 c14)) :
    B__law_rounds_9 (lrE js0 c1 c2 done (Fz (.int (0 + (k : Nat)))) c5 c6 c7 c8 c9 c10 c11 c12 c13 c14) (EE.lp K) := by
  have hfl := h.fl2
  have hcnt := h.cnt
  by_cases hne : js = []
  · subst hne
    have inv : LrI js0 (k + 1) [] fr done := ⟨h.ok, h.rel, h.cnt, by simp; omega, h.fl, h.fb, h.le, h.ne, h.wt, h.jb⟩
    unfold B__law_rounds_9
    unfold lrE at hK ⊢
    rcases h1 with rfl | rfl
    all_goals
      walk_at "pm"
      rw [if_neg (by decide)]
      exact hK _ _ _ _ _ _ _ _ _ _ _ _ _ _ _ _ inv (by first | exact .inl rfl | exact .inr rfl) h2
  · have hlen : (0 : Int) < (js.map jbD).length := by
      have := List.length_pos_iff.mpr hne
      rw [List.length_map]; omega
    have tl := fun (L N a b : Int) (c4 c5 c6 c12 c13 c14 : Ct) hb => lr_tail (EE := EE) (K := K) (L := L) (N := N) (a := a) (b := b) (c4 := c4) (c5 := c5) (c6 := c6) (c12 := c12) (c13 := c13) (c14 := c14) h hne hb hK
    -- from the rows on
    have rest : ∀ c6 c14, B__law_rounds_6 (lrE js0 (Fz (.lst (js.map jbD))) (Fz (.lst (fr.map ivD))) done (Fz (.int (0 + (k : Nat)))) (Wl ((rlsOf fr js).map rlD)) c6 c7 c8 c9 c10 c11 c12 c13 c14) (EE.lp K) := by
      intro c6 c14
      unfold B__law_rounds_6 lrE
      walk_at "pm"
      refine ⟨40, fr, js, rfl, hfl, by omega, h.ok, by decide, h.bld, h.bln, fun best hb => ?_⟩
      obtain ⟨L, N, a, b, e⟩ := best_some h.ok hne hb
      subst e
      have eb : bstD (some (L, N, a, b)) = .tup [.int L, .int N, .int a, .int b] := rfl
      rw [eb]
      walk_at "pm"
      obtain ⟨b1, b2, b3, b4, b5⟩ := id hb
      have hNpos : 0 < N := by rw [b4]; exact h.ok.ln_pos b2
      have bN : Bs 40 N := by rw [b4]; exact h.bln _ _
      have bL : Bs 40 L := by rw [b3]; exact h.bld _ _
      have tl := fun (c4 c5 c6 c12 c13 c14 : Ct) => tl L N a b c4 c5 c6 c12 c13 c14 hb
      generalize hnm : ((rowsOf fr js).filter (inR a b)).map (·.nm) = nms at tl
      have names : ∀ (c11 c12 c14 : Ct) (EX : Exn → En → Prop) (RR : R → En → Prop), RR (.va (Wl (nms.map .str))) (lrE js0 (Fz (.lst (js.map jbD))) (Fz (.lst (fr.map ivD))) done (Fz (.int (0 + (k : Nat)))) (Fz (.lst ((rlsOf fr js).map rlD))) c6 (Fz (.int L)) (Fz (.int N)) (Fz (.int a)) (Fz (.int b)) c11 c12 .no c14) →
          lcK (.nm 13) (tAnd (tCmpT .LtE (tNm 9) (tIx (tNmC 13) (tK (.int 0)))) (tCmpT .LtE (tIx (tNmC 13) (tK (.int 1))) (tNm 10))) (tIx (tIx (tNmC 13) (tK (.int 2))) (tK (.int 0))) [13] EX RR ((rlsOf fr js).map rlD) [] (lrE js0 (Fz (.lst (js.map jbD))) (Fz (.lst (fr.map ivD))) done (Fz (.int (0 + (k : Nat)))) (Fz (.lst ((rlsOf fr js).map rlD))) c6 (Fz (.int L)) (Fz (.int N)) (Fz (.int a)) (Fz (.int b)) c11 c12 .no c14) := by
        intro c11 c12 c14 EX RR hRR
        refine lc_pure (f := rlD) (fun p : Row × Job => if (decide (a ≤ p.1.f) && decide (p.1.l ≤ b)) = true then [D.str p.2.nm] else []) _ (fun _ => True) ?_ (fun r => by split <;> simp) (rlsOf fr js) [] (fun _ _ => trivial) (line_small (by unfold rlsOf; rw [List.length_nil, List.length_map]; omega)) (by rw [nmsL_map, hnm, List.nil_append]; exact hRR)
        intro p acc K' _ hacc hK
        have er : rlD p = .tup [.int p.1.f, .int p.1.l, .tup [.str p.2.nm, .int p.2.c, .int p.2.d, .int p.2.w]] := rfl
        unfold lrE at hK ⊢
        rw [er]
        walk_at "pm"
        by_cases h1 : a ≤ p.1.f
        · rw [if_pos h1]
          by_cases h2 : p.1.l ≤ b
          · rw [if_pos h2]
            rw [if_pos (by simp [h1, h2])] at hK
            exact ⟨hacc, hK⟩
          · rw [if_neg h2]
            rw [if_neg (by simp [h2]), List.append_nil] at hK
            exact hK
        · rw [if_neg h1]
          rw [if_neg (by simp [h1]), List.append_nil] at hK
          exact hK
      unfold B__law_rounds_5
      unfold lrE at names tl
      walk_at "pm"
      refine names _ _ _ _ _ ?_
      walk_at "pm"
      unfold B__law_rounds_4
      walk_at "pm"
      refine ⟨fr, a, b, rfl, hfl, ?_⟩
      walk_at "pm"
      unfold B__law_rounds_3
      walk_at "pm"
      refine ⟨40, L, N, rfl, by omega, bL, bN, by decide, ?_⟩
      walk_at "pm"
      refine ⟨Nat.lt_of_lt_of_le (show (done.map (rdD 1)).length < 20 by rw [List.length_map]; omega) (line_small (by omega)), ?_⟩
      have := tl (Fz (.int (0 + (k : Nat)))) (Fz (.lst ((rlsOf fr js).map rlD))) c6 (Fz (.tup ((fp fr a b).map ivD))) .no c14
      rw [List.map_append, List.map_cons, List.map_nil, rdD1] at this
      exact this
    unfold B__law_rounds_9 lrE
    have rows := fun c2 hc2 => lr_rows (EE := { (EE.lp K) with nx := fun ρ' => B__law_rounds_6 ρ' (EE.lp K) }) (c4 := Fz (.int (0 + (k : Nat)))) (c6 := c6) (c7 := c7) (c8 := c8) (c9 := c9) (c10 := c10) (c11 := c11) (c12 := c12) (c13 := c13) (c14 := c14) h (fun c6 c14 => rest c6 c14) c2 hc2 hne
    have r2 := rows c2 h2
    unfold lrE at r2
    rcases h1 with rfl | rfl
    all_goals
      walk_at "pm"
      rw [if_pos hlen]
      unfold B__law_rounds_8
      walk_at "pm"
      unfold B__law_rounds_7
      walk_at "pm"
      exact r2
end
theorem sp__law_rounds (cs : List Ct) (R0 : Ct → List Ct → Prop) (E0 : Exn → List Ct → Prop) : φ__law_rounds cs R0 E0 → fnOf 14 [] T__law_rounds cs R0 E0 := by
  rintro ⟨js, rfl, hok, hR⟩
  rw [fnOf_eq]
  refine ⟨noOw _ rfl, ?_⟩
  have hf := hok.few
  have inv0 : LrI js 0 js [(0, MM)] [] := by
    refine ⟨⟨⟨fun p hp => by rw [List.mem_singleton] at hp; subst hp; decide, by simp⟩, fun j hj => ?_, fun j hj => (hok.job j hj).2.2.2.1⟩, fun rs h => h, by simp; omega, by simp, by simp, fun p hp => by rw [List.mem_singleton] at hp; subst hp; exact Int.le_refl _, rfl, by simp, ?_, fun j hj => ?_⟩
    · obtain ⟨a, b, c, _⟩ := hok.job j hj
      have : MM = 1000000000 := rfl
      exact ⟨j.c, ⟨(0, MM), by simp, a, by show j.c < MM; omega⟩, Int.le_refl _, b⟩
    · have : ∀ l : List Job, (∀ j ∈ l, j.w ≤ 40000) → wtot l ≤ 40000 * l.length := by
        intro l
        induction l with
        | nil => intro _; simp [wtot]
        | cons j l ih =>
          intro hl
          have h1 := ih fun x hx => hl x (by simp [hx])
          have h2 := hl j (by simp)
          unfold wtot at *
          rw [List.map_cons, List.sum_cons, List.length_cons]
          omega
      have := this js fun j hj => (hok.job j hj).2.2.2.2.1
      omega
    · obtain ⟨a, b, c, _, _, d⟩ := hok.job j hj
      exact ⟨a, b, c, d⟩
  unfold T__law_rounds B__law_rounds_12 B__law_rounds_11 B__law_rounds_10
  walk_at "pm"
  refine ⟨by decide, ?_⟩
  rw [MM_eq, List.length_map, Int.toNat_natCast]
  refine ⟨by omega, ?_⟩
  refine for_rng (lo := 0) (n := js.length) (fun k ρ => ∃ (js' : List Job) (fr : List Iv) (done : List Rd) (c1 c2 c4 c5 c6 c7 c8 c9 c10 c11 c12 c13 c14 : Ct), ρ = lrE js c1 c2 done c4 c5 c6 c7 c8 c9 c10 c11 c12 c13 c14 ∧ LrI js k js' fr done ∧ liC (js'.map jbD) c1 ∧ liC (fr.map ivD) c2) ⟨js, [(0, MM)], [], _, _, _, _, _, _, _, _, _, _, _, _, _, rfl, inv0, .inl rfl, .inl rfl⟩ ?_ ?_
  · rintro k ρ K hk ⟨js', fr, done, c1, c2, c4, c5, c6, c7, c8, c9, c10, c11, c12, c13, c14, rfl, hi, h1, h2⟩ hK
    unfold lrE
    walk_at "pm"
    exact lr_body hk hi h1 h2 fun js' fr' done' c1 c2 c4 c5 c6 c7 c8 c9 c10 c11 c12 c13 c14 a b c => hK _ ⟨js', fr', done', c1, c2, c4, c5, c6, c7, c8, c9, c10, c11, c12, c13, c14, rfl, a, b, c⟩
  · rintro ρ ⟨js', fr, done, c1, c2, c4, c5, c6, c7, c8, c9, c10, c11, c12, c13, c14, rfl, hi, h1, h2⟩
    have he : js' = [] := by
      have := hi.left
      exact List.length_eq_zero_iff.mp (by omega)
    subst he
    unfold lrE
    walk_at "pm"
    have := hi.rel [] .nil
    rw [List.append_nil] at this
    exact hR done this
/-- the lists that the laws draw -/
theorem JobsOk.js {js : List Job} (h : JobsOk js) (hl : js.length ≤ 13) : JsOk js := by
  refine ⟨hl, fun j hj => ?_⟩
  obtain ⟨k, hk, ek⟩ := List.getElem_of_mem hj
  have e : js[k]? = some j := by rw [List.getElem?_eq_getElem hk, ek]
  have o := h.2 k j e
  have hk20 : k < 20 := by have := h.1; omega
  exact ⟨o.c0, o.cd, by have := o.dl; omega, by have := o.w1; omega, by have := o.wl; omega, o.nm.ok hk20⟩
theorem JsOk.m {js : List Job} (h : JsOk js) : ∀ j ∈ js, 0 ≤ j.c ∧ j.c < j.d ∧ 0 < j.w ∧ j.d ≤ MM := fun j hj => by
  obtain ⟨a, b, c, d, _⟩ := h.job j hj
  have : MM = 1000000000 := rfl
  exact ⟨a, b, d, by omega⟩
/-- what a round looks like to the law's comparison -/
theorem sameOk_rnd {r : Rd} (h1 : r.nms.length ≤ 1000) (h2 : r.tms.length ≤ 100000) : sameOk 4 (rndD r) := by
  refine ⟨by show 3 ≤ 16777216; omega, fun x hx => ?_⟩
  simp only [List.mem_cons, List.not_mem_nil, or_false] at hx
  rcases hx with rfl | rfl | rfl
  · exact sameOk_le (n := 2) sameOk_rat (by decide)
  · refine ⟨by rw [List.length_map]; omega, fun y hy => ?_⟩
    obtain ⟨s, _, rfl⟩ := List.mem_map.mp hy
    trivial
  · refine ⟨by rw [List.length_map]; omega, fun y hy => ?_⟩
    obtain ⟨s, _, rfl⟩ := List.mem_map.mp hy
    refine ⟨by show 2 ≤ 16777216; omega, fun z hz => ?_⟩
    simp only [List.mem_cons, List.not_mem_nil, or_false] at hz
    rcases hz with rfl | rfl <;> trivial
end Pm

namespace Pm
open PySem PySem.Spec PyProof.Rows L2
/-! ## lengths up to a time -/
def mu1 (p : Iv) (x : Rat) : Rat := if x ≤ (p.1 : Rat) then 0 else if x ≤ (p.2 : Rat) then x - (p.1 : Rat) else (p.2 : Rat) - (p.1 : Rat)
def mu : List Iv → Rat → Rat
  | [], _ => 0
  | p :: r, x => mu1 p x + mu r x
theorem mu1_mono {p : Iv} (h : p.1 < p.2) {x y : Rat} (hxy : x ≤ y) : mu1 p x ≤ mu1 p y := by
  have h' : (p.1 : Rat) < (p.2 : Rat) := by exact_mod_cast h
  unfold mu1
  split <;> split <;> (try split) <;> (try split) <;> grind
theorem mu1_in {p : Iv} {x y : Rat} (h1 : (p.1 : Rat) ≤ x) (hxy : x ≤ y) (h2 : y ≤ (p.2 : Rat)) : mu1 p y = mu1 p x + (y - x) := by
  unfold mu1
  split <;> split <;> (try split) <;> (try split) <;> grind
theorem mu1_lo {p : Iv} {x y : Rat} (hxy : x ≤ y) (h2 : y ≤ (p.1 : Rat)) : mu1 p y = mu1 p x := by
  unfold mu1
  rw [if_pos h2, if_pos (by grind)]
theorem mu1_hi {p : Iv} (h : p.1 < p.2) {x y : Rat} (hxy : x ≤ y) (h2 : (p.2 : Rat) ≤ x) : mu1 p y = mu1 p x := by
  have h' : (p.1 : Rat) < (p.2 : Rat) := by exact_mod_cast h
  unfold mu1
  split <;> split <;> (try split) <;> (try split) <;> grind
theorem mu_mono {x y : Rat} (hxy : x ≤ y) : ∀ {l : List Iv}, (∀ p ∈ l, p.1 < p.2) → mu l x ≤ mu l y
  | [], _ => by unfold mu; grind
  | p :: r, h => by
    have a := mu1_mono (h p (by simp)) hxy
    have b := mu_mono hxy (l := r) fun q hq => h q (by simp [hq])
    unfold mu; grind
theorem mu_app {x : Rat} : ∀ {l m : List Iv}, mu (l ++ m) x = mu l x + mu m x
  | [], m => by show mu m x = 0 + mu m x; grind
  | p :: r, m => by
    have := mu_app (x := x) (l := r) (m := m)
    show mu1 p x + mu (r ++ m) x = (mu1 p x + mu r x) + mu m x
    grind
theorem mu_lo {x y : Rat} (hxy : x ≤ y) : ∀ {l : List Iv}, (∀ p ∈ l, y ≤ (p.1 : Rat)) → mu l y = mu l x
  | [], _ => rfl
  | p :: r, h => by
    have a := mu1_lo hxy (h p (by simp))
    have b := mu_lo hxy (l := r) fun q hq => h q (by simp [hq])
    unfold mu; grind
theorem mu_hi {x y : Rat} (hxy : x ≤ y) : ∀ {l : List Iv}, (∀ p ∈ l, p.1 < p.2 ∧ (p.2 : Rat) ≤ x) → mu l y = mu l x
  | [], _ => rfl
  | p :: r, h => by
    have a := mu1_hi (h p (by simp)).1 hxy (h p (by simp)).2
    have b := mu_hi hxy (l := r) fun q hq => h q (by simp [hq])
    unfold mu; grind
theorem icast_le {a b : Int} (h : a ≤ b) : (a : Rat) ≤ (b : Rat) := by exact_mod_cast h
theorem icast_lt {a b : Int} (h : a < b) : (a : Rat) < (b : Rat) := by exact_mod_cast h
/-- within an interval -/
theorem mu_in {pre post : List Iv} {p : Iv} (h : FrOk (pre ++ p :: post)) {x y : Rat} (h1 : (p.1 : Rat) ≤ x) (hxy : x ≤ y) (h2 : y ≤ (p.2 : Rat)) : mu (pre ++ p :: post) y = mu (pre ++ p :: post) x + (y - x) := by
  have ho := h.ord
  rw [List.pairwise_append] at ho
  obtain ⟨_, o2, o3⟩ := ho
  rw [List.pairwise_cons] at o2
  have a : mu pre y = mu pre x := mu_hi hxy fun q hq => ⟨(h.pos q (by simp [hq])).2, by
    have := icast_le (o3 q hq p (by simp)); grind⟩
  have b : mu post y = mu post x := mu_lo hxy fun q hq => by
    have := icast_le (o2.1 q hq); grind
  have c := mu1_in h1 hxy h2
  rw [mu_app, mu_app]
  show mu pre y + (mu1 p y + mu post y) = mu pre x + (mu1 p x + mu post x) + (y - x)
  grind
/-- between two intervals -/
theorem mu_gap {pre post : List Iv} {p q : Iv} (h : FrOk (pre ++ p :: q :: post)) : mu (pre ++ p :: q :: post) (q.1 : Rat) = mu (pre ++ p :: q :: post) (p.2 : Rat) := by
  have ho := h.ord
  rw [List.pairwise_append] at ho
  obtain ⟨_, o2, o3⟩ := ho
  rw [List.pairwise_cons] at o2
  have hpq : (p.2 : Rat) ≤ (q.1 : Rat) := icast_le (o2.1 q (by simp))
  have o4 := List.pairwise_cons.mp o2.2
  have hp := (h.pos p (by simp)).2
  have a : mu pre (q.1 : Rat) = mu pre (p.2 : Rat) := mu_hi hpq fun z hz => ⟨(h.pos z (by simp [hz])).2, by
    have h1 := icast_le (o3 z hz p (by simp))
    have := icast_lt hp; grind⟩
  have b : mu (q :: post) (q.1 : Rat) = mu (q :: post) (p.2 : Rat) := mu_lo hpq fun z hz => by
    rcases List.mem_cons.mp hz with rfl | hz
    · exact Rat.le_refl
    · have h1 := icast_le (o4.1 z hz)
      have := icast_lt (h.pos q (by simp)).2; grind
  have c : mu1 p (q.1 : Rat) = mu1 p (p.2 : Rat) := mu1_hi hp hpq Rat.le_refl
  rw [mu_app, mu_app]
  show mu pre _ + (mu1 p _ + mu (q :: post) _) = mu pre _ + (mu1 p _ + mu (q :: post) _)
  grind
theorem mu_zero {l : List Iv} {x : Rat} (h : ∀ p ∈ l, x ≤ (p.1 : Rat)) : mu l x = 0 := by
  induction l with
  | nil => rfl
  | cons p r ih =>
    have := ih fun q hq => h q (by simp [hq])
    unfold mu mu1
    rw [if_pos (h p (by simp)), this]
    grind
/-- counted in whole numbers -/
theorem mu_int {a : Int} {p : Iv} (h : p.1 < p.2) {b : Int} (hab : a ≤ b) : mu1 p (b : Rat) - mu1 p (a : Rat) = (((fp [p] a b).map fun q => q.2 - q.1).sum : Int) := by
  rw [fp_one]
  have e1 : mu1 p (b : Rat) = ((max 0 (min b p.2 - p.1) : Int) : Rat) := by
    unfold mu1
    by_cases h1 : (b : Rat) ≤ (p.1 : Rat)
    · have h1' : b ≤ p.1 := by exact_mod_cast h1
      rw [if_pos h1]
      have : max 0 (min b p.2 - p.1) = 0 := by omega
      rw [this]; rfl
    · have h1' : ¬ b ≤ p.1 := fun z => h1 (icast_le z)
      rw [if_neg h1]
      by_cases h2 : (b : Rat) ≤ (p.2 : Rat)
      · have h2' : b ≤ p.2 := by exact_mod_cast h2
        rw [if_pos h2]
        have : max 0 (min b p.2 - p.1) = b - p.1 := by omega
        rw [this, Rat.intCast_sub]
      · have h2' : ¬ b ≤ p.2 := fun z => h2 (icast_le z)
        rw [if_neg h2]
        have : max 0 (min b p.2 - p.1) = p.2 - p.1 := by omega
        rw [this, Rat.intCast_sub]
  have e2 : mu1 p (a : Rat) = ((max 0 (min a p.2 - p.1) : Int) : Rat) := by
    unfold mu1
    by_cases h1 : (a : Rat) ≤ (p.1 : Rat)
    · have h1' : a ≤ p.1 := by exact_mod_cast h1
      rw [if_pos h1]
      have : max 0 (min a p.2 - p.1) = 0 := by omega
      rw [this]; rfl
    · have h1' : ¬ a ≤ p.1 := fun z => h1 (icast_le z)
      rw [if_neg h1]
      by_cases h2 : (a : Rat) ≤ (p.2 : Rat)
      · have h2' : a ≤ p.2 := by exact_mod_cast h2
        rw [if_pos h2]
        have : max 0 (min a p.2 - p.1) = a - p.1 := by omega
        rw [this, Rat.intCast_sub]
      · have h2' : ¬ a ≤ p.2 := fun z => h2 (icast_le z)
        rw [if_neg h2]
        have : max 0 (min a p.2 - p.1) = p.2 - p.1 := by omega
        rw [this, Rat.intCast_sub]
  rw [e1, e2, ← Rat.intCast_sub]
  congr 1
  split
  · simp; omega
  · simp; omega
theorem ln_mu {a b : Int} (hab : a ≤ b) : ∀ {fr : List Iv}, (∀ p ∈ fr, p.1 < p.2) → mu fr (b : Rat) - mu fr (a : Rat) = (ln fr a b : Rat)
  | [], _ => by show (0 : Rat) - 0 = ((0 : Int) : Rat); grind
  | p :: r, h => by
    have h1 := mu_int (h p (by simp)) hab
    have h2 := ln_mu hab (fr := r) fun q hq => h q (by simp [hq])
    have e : ln (p :: r) a b = ((fp [p] a b).map fun q => q.2 - q.1).sum + ln r a b := by
      unfold ln
      rw [fp_cons, List.map_append, List.sum_append]
    rw [e, Rat.intCast_add, ← h1, ← h2]
    show (mu1 p _ + mu r _) - (mu1 p _ + mu r _) = _
    generalize mu r _ = x1
    grind
end Pm

namespace Pm
open PySem PySem.Spec PyProof.Rows L2
/-! ## the first due -/
theorem qdiv_pos {a b : Rat} (ha : 0 < a) (hb : 0 < b) : 0 < a / b := by
  have e : a / b * b = a := Rat.div_mul_cancel (by grind)
  by_cases h : 0 < a / b
  · exact h
  · have h1 : a / b ≤ 0 := by grind
    have h2 : (a / b) * b ≤ 0 * b := Rat.mul_le_mul_of_nonneg_right h1 (by grind)
    grind
abbrev Lf := Str → Rat
def sw (g : Jq → Rat) : List Jq → Rat
  | [] => 0
  | j :: r => g j + sw g r
theorem sw_le {g h : Jq → Rat} : ∀ {l : List Jq}, (∀ j ∈ l, g j ≤ h j) → sw g l ≤ sw h l
  | [], _ => by unfold sw; exact Rat.le_refl
  | j :: r, H => by
    have a := H j (by simp)
    have b := sw_le (l := r) fun k hk => H k (by simp [hk])
    show g j + sw g r ≤ h j + sw h r
    grind
theorem sw_eq {g h : Jq → Rat} : ∀ {l : List Jq}, (∀ j ∈ l, g j = h j) → sw g l = sw h l
  | [], _ => rfl
  | j :: r, H => by
    have a := H j (by simp)
    have b := sw_eq (l := r) fun k hk => H k (by simp [hk])
    show g j + sw g r = h j + sw h r
    rw [a, b]
theorem sw_add {g h : Jq → Rat} : ∀ {l : List Jq}, sw (fun j => g j + h j) l = sw g l + sw h l
  | [] => by show (0 : Rat) = 0 + 0; grind
  | j :: r => by
    have := sw_add (g := g) (h := h) (l := r)
    show (g j + h j) + sw _ r = (g j + sw g r) + (h j + sw h r)
    grind
theorem sw_sub {g h : Jq → Rat} : ∀ {l : List Jq}, sw (fun j => g j - h j) l = sw g l - sw h l
  | [] => by show (0 : Rat) = 0 - 0; grind
  | j :: r => by
    have := sw_sub (g := g) (h := h) (l := r)
    show (g j - h j) + sw _ r = (g j + sw g r) - (h j + sw h r)
    grind
theorem sw_nn {g : Jq → Rat} : ∀ {l : List Jq}, (∀ j ∈ l, 0 ≤ g j) → 0 ≤ sw g l
  | [], _ => by unfold sw; exact Rat.le_refl
  | j :: r, H => by
    have a := H j (by simp)
    have b := sw_nn (l := r) fun k hk => H k (by simp [hk])
    show 0 ≤ g j + sw g r
    grind
theorem sw_one {g : Jq → Rat} : ∀ {l : List Jq}, (∀ j ∈ l, 0 ≤ g j) → ∀ j ∈ l, g j ≤ sw g l
  | k :: r, H, j, hj => by
    have a := H k (by simp)
    have b := sw_nn (l := r) fun k hk => H k (by simp [hk])
    show g j ≤ g k + sw g r
    rcases List.mem_cons.mp hj with rfl | hj
    · grind
    · have := sw_one (l := r) (fun k hk => H k (by simp [hk])) j hj
      grind
theorem sw_all0 {g : Jq → Rat} {l : List Jq} (h : ∀ j ∈ l, 0 ≤ g j) (hs : sw g l ≤ 0) : ∀ j ∈ l, g j = 0 := fun j hj => by
  have a := h j hj
  have b := sw_one h j hj
  grind
/-- one summand changes -/
theorem sw_upd {g h : Jq → Rat} {J : Jq} {v : Rat} : ∀ {l : List Jq}, (l.map (·.nm)).Nodup → J ∈ l → (∀ j ∈ l, j.nm ≠ J.nm → h j = g j) → h J = g J + v → sw h l = sw g l + v
  | k :: r, hn, hJ, H, hv => by
    rw [List.map_cons, List.nodup_cons] at hn
    show h k + sw h r = (g k + sw g r) + v
    rcases List.mem_cons.mp hJ with rfl | hJ
    · have : sw h r = sw g r := sw_eq fun j hj => H j (by simp [hj]) fun z => hn.1 (by rw [← z]; exact List.mem_map.mpr ⟨j, hj, rfl⟩)
      grind
    · have h1 := sw_upd (l := r) hn.2 hJ (fun j hj => H j (by simp [hj])) hv
      have h2 := H k (by simp) fun z => hn.1 (by rw [z]; exact List.mem_map.mpr ⟨J, hJ, rfl⟩)
      grind
def av (lf : Lf) (now : Rat) (j : Jq) : Prop := now < (j.d : Rat) ∧ ¬ now < (j.c : Rat) ∧ lf j.nm ≠ 0
instance (lf : Lf) (now : Rat) (j : Jq) : Decidable (av lf now j) := by unfold av; infer_instance
def fdS (lf : Lf) (now : Rat) (best : Option Jq) (j : Jq) : Option Jq := if av lf now j then (match best with | none => some j | some b => if j.d < b.d then some j else some b) else best
def fd (own : List Jq) (lf : Lf) (now : Rat) : Option Jq := own.foldl (fdS lf now) none
theorem fd_snoc {own : List Jq} {lf : Lf} {now : Rat} {j : Jq} : fd (own ++ [j]) lf now = fdS lf now (fd own lf now) j := by unfold fd; rw [List.foldl_append]; rfl
theorem fd_spec (lf : Lf) (now : Rat) (own : List Jq) : match fd own lf now with
    | none => ∀ k ∈ own, ¬ av lf now k
    | some j => j ∈ own ∧ av lf now j ∧ ∀ k ∈ own, av lf now k → j.d ≤ k.d := by
  have : ∀ (l pre : List Jq) (b : Option Jq), (match b with
      | none => ∀ k ∈ pre, ¬ av lf now k
      | some j => j ∈ pre ∧ av lf now j ∧ ∀ k ∈ pre, av lf now k → j.d ≤ k.d) → (match l.foldl (fdS lf now) b with
      | none => ∀ k ∈ pre ++ l, ¬ av lf now k
      | some j => j ∈ pre ++ l ∧ av lf now j ∧ ∀ k ∈ pre ++ l, av lf now k → j.d ≤ k.d) := by
    intro l
    induction l with
    | nil => intro pre b h; rw [List.append_nil]; exact h
    | cons x l ih =>
      intro pre b h
      rw [List.foldl_cons]
      have := ih (pre ++ [x]) (fdS lf now b x) (by
        unfold fdS
        by_cases hx : av lf now x
        · rw [if_pos hx]
          cases b with
          | none =>
            refine ⟨by simp, hx, fun k hk ha => ?_⟩
            rcases List.mem_append.mp hk with hk | hk
            · exact absurd ha (h k hk)
            · rw [List.mem_singleton.mp hk]; exact Int.le_refl _
          | some b =>
            obtain ⟨h1, h2, h3⟩ := h
            dsimp only
            by_cases hd : x.d < b.d
            · rw [if_pos hd]
              refine ⟨by simp, hx, fun k hk ha => ?_⟩
              rcases List.mem_append.mp hk with hk | hk
              · have := h3 k hk ha; omega
              · rw [List.mem_singleton.mp hk]; exact Int.le_refl _
            · rw [if_neg hd]
              refine ⟨by simp [h1], h2, fun k hk ha => ?_⟩
              rcases List.mem_append.mp hk with hk | hk
              · exact h3 k hk ha
              · rw [List.mem_singleton.mp hk]; omega
        · rw [if_neg hx]
          cases b with
          | none =>
            intro k hk
            rcases List.mem_append.mp hk with hk | hk
            · exact h k hk
            · rw [List.mem_singleton.mp hk]; exact hx
          | some b =>
            obtain ⟨h1, h2, h3⟩ := h
            refine ⟨by simp [h1], h2, fun k hk ha => ?_⟩
            rcases List.mem_append.mp hk with hk | hk
            · exact h3 k hk ha
            · rw [List.mem_singleton.mp hk] at ha; exact absurd ha hx)
      rw [List.append_assoc] at this
      exact this
  exact this own [] none (fun k hk => by cases hk)
def lst2 (a b : Rat) : Rat := if b < a then b else a
theorem lst2_le {a b : Rat} : lst2 a b ≤ a ∧ lst2 a b ≤ b := by unfold lst2; split <;> constructor <;> grind
theorem lst2_or {a b : Rat} : lst2 a b = a ∨ lst2 a b = b := by unfold lst2; split <;> simp
def utS (now : Rat) (u : Rat) (o : Jq) : Rat := if now < (o.c : Rat) then lst2 u (o.c : Rat) else u
def ut0 (s : Rat) (lf : Lf) (now fin : Rat) (j : Jq) : Rat := lst2 fin (now + lf j.nm / s)
def ut (own : List Jq) (s : Rat) (lf : Lf) (now fin : Rat) (j : Jq) : Rat := own.foldl (utS now) (ut0 s lf now fin j)
theorem utF_spec (now : Rat) : ∀ (l : List Jq) (u : Rat), l.foldl (utS now) u ≤ u ∧ (∀ o ∈ l, now < (o.c : Rat) → l.foldl (utS now) u ≤ (o.c : Rat)) ∧ (l.foldl (utS now) u = u ∨ ∃ o ∈ l, now < (o.c : Rat) ∧ l.foldl (utS now) u = (o.c : Rat))
  | [], u => ⟨Rat.le_refl, fun o h => (by cases h), .inl rfl⟩
  | o :: l, u => by
    obtain ⟨h1, h2, h3⟩ := utF_spec now l (utS now u o)
    rw [List.foldl_cons]
    have hu : utS now u o ≤ u := by unfold utS; split; exact lst2_le.1; exact Rat.le_refl
    refine ⟨by grind, fun x hx hn => ?_, ?_⟩
    · rcases List.mem_cons.mp hx with rfl | hx
      · have : utS now u x ≤ (x.c : Rat) := by unfold utS; rw [if_pos hn]; exact lst2_le.2
        grind
      · exact h2 x hx hn
    · rcases h3 with h3 | ⟨x, hx, hn, h3⟩
      · unfold utS at h3 ⊢
        by_cases hn : now < (o.c : Rat)
        · rw [if_pos hn] at h3 ⊢
          rcases lst2_or (a := u) (b := (o.c : Rat)) with e | e
          · left; rw [h3, e]
          · right; exact ⟨o, by simp, hn, by rw [h3, e]⟩
        · rw [if_neg hn] at h3 ⊢
          exact .inl h3
      · exact .inr ⟨x, by simp [hx], hn, h3⟩
theorem ut_spec {own : List Jq} {s : Rat} {lf : Lf} {now fin : Rat} {j : Jq} (hs : 0 < s) (hl : 0 < lf j.nm) (hf : now < fin) : now < ut own s lf now fin j ∧ ut own s lf now fin j ≤ fin ∧ ut own s lf now fin j ≤ now + lf j.nm / s ∧ (∀ o ∈ own, now < (o.c : Rat) → ut own s lf now fin j ≤ (o.c : Rat)) ∧
    (ut own s lf now fin j = fin ∨ ut own s lf now fin j = now + lf j.nm / s ∨ ∃ o ∈ own, now < (o.c : Rat) ∧ ut own s lf now fin j = (o.c : Rat)) := by
  obtain ⟨h1, h2, h3⟩ := utF_spec now own (ut0 s lf now fin j)
  have hq : 0 < lf j.nm / s := qdiv_pos hl hs
  have e0 : ut0 s lf now fin j ≤ fin ∧ ut0 s lf now fin j ≤ now + lf j.nm / s := lst2_le
  have e1 : ut0 s lf now fin j = fin ∨ ut0 s lf now fin j = now + lf j.nm / s := lst2_or
  unfold ut
  generalize own.foldl (utS now) (ut0 s lf now fin j) = U at *
  refine ⟨?_, by grind, by grind, h2, ?_⟩
  · rcases h3 with h3 | ⟨o, _, hn, h3⟩
    · rcases e1 with e1 | e1 <;> grind
    · grind
  · rcases h3 with h3 | h3
    · rcases e1 with e1 | e1
      · exact .inl (by grind)
      · exact .inr (.inl (by grind))
    · exact .inr (.inr h3)
def lfu (lf : Lf) (n : Str) (v : Rat) : Lf := fun m => if m = n then v else lf m
theorem lfu_same {lf : Lf} {n : Str} {v : Rat} : lfu lf n v n = v := by unfold lfu; rw [if_pos rfl]
theorem lfu_ne {lf : Lf} {n m : Str} {v : Rat} (h : m ≠ n) : lfu lf n v m = lf m := by unfold lfu; rw [if_neg h]

/-! ### what stays true -/
structure Dens (own : List Jq) (s : Rat) (tms : List Iv) : Prop where
  s0 : 0 < s
  fo : FrOk tms
  nd : (own.map (·.nm)).Nodup
  job : ∀ j ∈ own, 0 ≤ j.c ∧ j.c < j.d ∧ 0 < j.w
  d1 : ∀ x y : Int, x ≤ y → sw (fun j => if x ≤ j.c ∧ j.d ≤ y then j.w else 0) own ≤ s * (mu tms (y : Rat) - mu tms (x : Rat))
  d2 : ∀ Y : Rat, (∀ p ∈ tms, (p.2 : Rat) ≤ Y) → sw (fun j => j.w) own = s * mu tms Y
structure EdI (own : List Jq) (s : Rat) (tms : List Iv) (lf : Lf) (now : Rat) : Prop where
  i0 : ∀ j ∈ own, 0 ≤ lf j.nm ∧ lf j.nm ≤ j.w
  i1 : ∀ j ∈ own, now ≤ (j.c : Rat) → lf j.nm = j.w
  i2 : sw (fun j => j.w - lf j.nm) own = s * mu tms now
  i3 : ∀ d : Int, ∃ t : Rat, t ≤ now ∧ (∀ j ∈ own, j.d ≤ d → (j.c : Rat) < t → lf j.nm = 0) ∧ sw (fun j => if j.d ≤ d ∧ t ≤ (j.c : Rat) then j.w - lf j.nm else 0) own = s * (mu tms now - mu tms t)
section
variable {own : List Jq} {s : Rat} {tms : List Iv} {lf : Lf} {now : Rat}
theorem mulm {s a b : Rat} (h : 0 < s) (hab : a ≤ b) : s * a ≤ s * b := Rat.mul_le_mul_of_nonneg_left hab (by grind)
theorem mull {s a b : Rat} (h : 0 < s) (hab : a < b) : s * a < s * b := Rat.mul_lt_mul_of_pos_left hab h
theorem Dens.mono (D : Dens own s tms) {x y : Rat} (h : x ≤ y) : mu tms x ≤ mu tms y := mu_mono h fun p hp => (D.fo.pos p hp).2
/-- nothing is missed -/
theorem EdI.met (D : Dens own s tms) (I : EdI own s tms lf now) {j : Jq} (hj : j ∈ own) (hd : (j.d : Rat) ≤ now) : lf j.nm = 0 := by
  obtain ⟨t, ht, h1, h2⟩ := I.i3 j.d
  by_cases hc : (j.c : Rat) < t
  · exact h1 j hj (Int.le_refl _) hc
  · have hc : t ≤ (j.c : Rat) := by grind
    -- x: the least whole number not below t
    have ⟨x, hx1, hx2⟩ : ∃ x : Int, t ≤ (x : Rat) ∧ ∀ c : Int, t ≤ (c : Rat) → x ≤ c := by
      refine ⟨t.ceil, Rat.le_ceil, fun c hc => ?_⟩
      exact Rat.ceil_le_iff.mpr hc
    have hxc : x ≤ j.c := hx2 _ hc
    have hxd : x ≤ j.d := by have := (D.job j hj).2.1; omega
    have a := D.d1 x j.d hxd
    have e1 : sw (fun k => if x ≤ k.c ∧ k.d ≤ j.d then k.w else 0) own = sw (fun k => if k.d ≤ j.d ∧ t ≤ (k.c : Rat) then k.w else 0) own := sw_eq fun k hk => by
      by_cases h : k.d ≤ j.d ∧ t ≤ (k.c : Rat)
      · rw [if_pos h, if_pos ⟨hx2 _ h.2, h.1⟩]
      · rw [if_neg h, if_neg (fun z => h ⟨z.2, by have := icast_le z.1; grind⟩)]
    have e2 : sw (fun k => if k.d ≤ j.d ∧ t ≤ (k.c : Rat) then k.w - lf k.nm else 0) own = sw (fun k => if k.d ≤ j.d ∧ t ≤ (k.c : Rat) then k.w else 0) own - sw (fun k => if k.d ≤ j.d ∧ t ≤ (k.c : Rat) then lf k.nm else 0) own := by
      rw [← sw_sub]
      exact sw_eq fun k hk => by split <;> grind
    rw [e1] at a
    rw [e2] at h2
    have m1 := D.mono hx1
    have m2 := D.mono hd
    have m3 := mulm D.s0 (show mu tms (j.d : Rat) - mu tms (x : Rat) ≤ mu tms now - mu tms t by grind)
    have z := sw_all0 (g := fun k => if k.d ≤ j.d ∧ t ≤ (k.c : Rat) then lf k.nm else 0) (l := own) (fun k hk => by
      by_cases h : k.d ≤ j.d ∧ t ≤ (k.c : Rat)
      · simp only [if_pos h]; exact (I.i0 k hk).1
      · simp only [if_neg h]; exact Rat.le_refl) (by grind) j hj
    simp only [if_pos (show j.d ≤ j.d ∧ t ≤ (j.c : Rat) from ⟨Int.le_refl _, hc⟩)] at z
    exact z
end
end Pm

namespace Pm
open PySem PySem.Spec PyProof.Rows L2
section
variable {own : List Jq} {s : Rat} {tms pre post : List Iv} {p : Iv} {lf : Lf} {now : Rat} {J : Jq}
/-- what is left in all -/
theorem EdI.left (D : Dens own s tms) (I : EdI own s tms lf now) {Y : Rat} (hY : ∀ p ∈ tms, (p.2 : Rat) ≤ Y) : sw (fun j => lf j.nm) own = s * (mu tms Y - mu tms now) := by
  have a := D.d2 Y hY
  have b := I.i2
  rw [sw_sub] at b
  grind
/-- a time behind all -/
theorem top_ex (own : List Jq) (tms : List Iv) : ∃ Y : Int, (∀ p ∈ tms, p.2 ≤ Y) ∧ ∀ j ∈ own, j.d ≤ Y := by
  have a : ∃ Y : Int, ∀ p ∈ tms, p.2 ≤ Y := by
    induction tms with
    | nil => exact ⟨0, fun p h => by cases h⟩
    | cons q r ih =>
      obtain ⟨Y, h⟩ := ih
      refine ⟨max Y q.2, fun p hp => ?_⟩
      rcases List.mem_cons.mp hp with rfl | hp
      · omega
      · have := h p hp; omega
  have b : ∃ Y : Int, ∀ j ∈ own, j.d ≤ Y := by
    induction own with
    | nil => exact ⟨0, fun p h => by cases h⟩
    | cons q r ih =>
      obtain ⟨Y, h⟩ := ih
      refine ⟨max Y q.d, fun p hp => ?_⟩
      rcases List.mem_cons.mp hp with rfl | hp
      · omega
      · have := h p hp; omega
  obtain ⟨Y, hY⟩ := a
  obtain ⟨Z, hZ⟩ := b
  exact ⟨max Y Z, fun p hp => by have := hY p hp; omega, fun j hj => by have := hZ j hj; omega⟩
/-- the least coming behind a time -/
theorem next_ex (own : List Jq) (now : Rat) : (∀ j ∈ own, ¬ now < (j.c : Rat)) ∨ ∃ c : Int, now < (c : Rat) ∧ (∃ j ∈ own, j.c = c) ∧ ∀ j ∈ own, now < (j.c : Rat) → c ≤ j.c := by
  induction own with
  | nil => exact .inl fun j h => by cases h
  | cons q r ih =>
    by_cases hq : now < (q.c : Rat)
    · right
      rcases ih with h | ⟨c, h1, ⟨x, hx, ex⟩, h2⟩
      · refine ⟨q.c, hq, ⟨q, by simp, rfl⟩, fun j hj hn => ?_⟩
        rcases List.mem_cons.mp hj with rfl | hj
        · exact Int.le_refl _
        · exact absurd hn (h j hj)
      · by_cases hl : q.c ≤ c
        · refine ⟨q.c, hq, ⟨q, by simp, rfl⟩, fun j hj hn => ?_⟩
          rcases List.mem_cons.mp hj with rfl | hj
          · exact Int.le_refl _
          · have := h2 j hj hn; omega
        · refine ⟨c, h1, ⟨x, by simp [hx], ex⟩, fun j hj hn => ?_⟩
          rcases List.mem_cons.mp hj with rfl | hj
          · omega
          · exact h2 j hj hn
    · rcases ih with h | ⟨c, h1, ⟨x, hx, ex⟩, h2⟩
      · left
        intro j hj
        rcases List.mem_cons.mp hj with rfl | hj
        · exact hq
        · exact h j hj
      · right
        refine ⟨c, h1, ⟨x, by simp [hx], ex⟩, fun j hj hn => ?_⟩
        rcases List.mem_cons.mp hj with rfl | hj
        · exact absurd hn hq
        · exact h2 j hj hn
/-- someone can be worked on -/
theorem EdI.busy (D : Dens own s tms) (I : EdI own s tms lf now) (ht : tms = pre ++ p :: post) (h1 : (p.1 : Rat) ≤ now) (h2 : now < (p.2 : Rat)) : ∃ j ∈ own, av lf now j := by
  by_cases hex : ∃ j ∈ own, av lf now j
  · exact hex
  · exfalso
    have hno : ∀ j ∈ own, ¬ av lf now j := fun j hj z => hex ⟨j, hj, z⟩
    have hz : ∀ j ∈ own, ¬ now < (j.c : Rat) → lf j.nm = 0 := fun j hj hc => by
      by_cases hd : now < (j.d : Rat)
      · by_cases hl : lf j.nm = 0
        · exact hl
        · exact absurd ⟨hd, hc, hl⟩ (hno j hj)
      · exact I.met D hj (by grind)
    obtain ⟨Y, hY1, hY2⟩ := top_ex own tms
    have hYr : ∀ p ∈ tms, (p.2 : Rat) ≤ (Y : Rat) := fun p hp => icast_le (hY1 p hp)
    have hl := I.left D hYr
    have fo := D.fo
    have hp2Y : (p.2 : Rat) ≤ (Y : Rat) := hYr p (by rw [ht]; simp)
    have min1 : ∀ y : Rat, now < y → mu tms now < mu tms y := fun y hy => by
      have a : mu tms (lst2 y (p.2 : Rat)) = mu tms now + (lst2 y (p.2 : Rat) - now) := by
        rw [ht] at fo ⊢
        exact mu_in fo h1 (by rcases lst2_or (a := y) (b := (p.2 : Rat)) with e | e <;> rw [e] <;> grind) lst2_le.2
      have b := D.mono (lst2_le (a := y) (b := (p.2 : Rat))).1
      rcases lst2_or (a := y) (b := (p.2 : Rat)) with e | e <;> rw [e] at a b <;> grind
    have hpos : 0 < s * (mu tms (Y : Rat) - mu tms now) := by
      have := mull D.s0 (min1 (Y : Rat) (by grind))
      grind
    rcases next_ex own now with hn | ⟨c, hc1, ⟨x, hx, ex⟩, hc2⟩
    · have : sw (fun j => lf j.nm) own = sw (fun _ => 0) own := sw_eq fun j hj => hz j hj (hn j hj)
      have z0 : ∀ l : List Jq, sw (fun _ => (0 : Rat)) l = 0 := fun l => by
        induction l with
        | nil => rfl
        | cons q r ih => show (0 : Rat) + sw _ r = 0; rw [ih]; grind
      rw [z0] at this
      grind
    · have hcY : c ≤ Y := by
        have := hY2 x hx
        have := (D.job x hx).2.1
        omega
      have d1 := D.d1 c Y hcY
      have le : sw (fun j => lf j.nm) own ≤ sw (fun j => if c ≤ j.c ∧ j.d ≤ Y then j.w else 0) own := sw_le fun j hj => by
        by_cases hn : now < (j.c : Rat)
        · rw [if_pos ⟨hc2 j hj hn, hY2 j hj⟩]; exact (I.i0 j hj).2
        · rw [hz j hj hn]
          split
          · have := (D.job j hj).2.2; grind
          · exact Rat.le_refl
      have := mull D.s0 (min1 (c : Rat) hc1)
      grind
/-- one step -/
theorem EdI.step (D : Dens own s tms) (I : EdI own s tms lf now) (ht : tms = pre ++ p :: post) (h1 : (p.1 : Rat) ≤ now) {x : Rat} (hx0 : now < x) (hx : x ≤ (p.2 : Rat)) (hJ : J ∈ own) (ha : av lf now J) (hf : ∀ k ∈ own, av lf now k → J.d ≤ k.d)
    (hw : s * (x - now) ≤ lf J.nm) (hc : ∀ o ∈ own, now < (o.c : Rat) → x ≤ (o.c : Rat)) : EdI own s tms (lfu lf J.nm (lf J.nm - s * (x - now))) x := by
  have fo := D.fo
  have emu : mu tms x = mu tms now + (x - now) := by
    rw [ht] at fo ⊢
    exact mu_in fo h1 (by grind) hx
  have hsx : 0 < s * (x - now) := by have := mull D.s0 (show (0 : Rat) < x - now by grind); grind
  have same : ∀ j ∈ own, j.nm = J.nm → j = J := fun j hj e => by
    have nd := D.nd
    clear I ht hf hc fo emu D
    induction own with
    | nil => cases hj
    | cons q r ih =>
      rw [List.map_cons, List.nodup_cons] at nd
      rcases List.mem_cons.mp hj with rfl | hj' <;> rcases List.mem_cons.mp hJ with rfl | hJ'
      · rfl
      · exact absurd (show j.nm ∈ r.map (·.nm) from List.mem_map.mpr ⟨J, hJ', e.symm⟩) nd.1
      · exact absurd (show J.nm ∈ r.map (·.nm) from List.mem_map.mpr ⟨j, hj', e⟩) nd.1
      · exact ih hJ' hj' nd.2
  have hd1 : ∀ d : Int, J.d ≤ d ∨ d < J.d := fun d => by omega
  have uJ : lfu lf J.nm (lf J.nm - s * (x - now)) J.nm = lf J.nm - s * (x - now) := lfu_same
  have uN : ∀ j : Jq, j.nm ≠ J.nm → lfu lf J.nm (lf J.nm - s * (x - now)) j.nm = lf j.nm := fun j h => lfu_ne h
  have nJ : ¬ now < (J.c : Rat) := ha.2.1
  refine ⟨fun j hj => ?_, fun j hj hxc => ?_, ?_, fun d => ?_⟩
  · by_cases e : j.nm = J.nm
    · have := same j hj e; subst this
      rw [uJ]
      have := I.i0 j hj
      constructor <;> grind
    · rw [uN j e]; exact I.i0 j hj
  · by_cases e : j.nm = J.nm
    · have := same j hj e; subst this
      exact absurd (show now < (j.c : Rat) by grind) nJ
    · rw [uN j e]; exact I.i1 j hj (by grind)
  · rw [sw_upd (g := fun j => j.w - lf j.nm) (J := J) (v := s * (x - now)) D.nd hJ (fun j hj e => by show j.w - _ = j.w - _; rw [uN j e]) (by show J.w - _ = _; rw [uJ]; grind), I.i2, emu]
    grind
  · by_cases hJd : J.d ≤ d
    · obtain ⟨t, t1, t2, t3⟩ := I.i3 d
      have hcJ : t ≤ (J.c : Rat) := by
        by_cases h : (J.c : Rat) < t
        · exact absurd (t2 J hJ hJd h) ha.2.2
        · grind
      refine ⟨t, by grind, fun j hj hj1 hj2 => ?_, ?_⟩
      · by_cases e : j.nm = J.nm
        · have := same j hj e; subst this
          grind
        · rw [uN j e]; exact t2 j hj hj1 hj2
      · rw [sw_upd (g := fun j => if j.d ≤ d ∧ t ≤ (j.c : Rat) then j.w - lf j.nm else 0) (J := J) (v := s * (x - now)) D.nd hJ (fun j hj e => by simp only [uN j e]) (by simp only [if_pos (show J.d ≤ d ∧ t ≤ (J.c : Rat) from ⟨hJd, hcJ⟩), uJ]; grind), t3, emu]
        grind
    · have hz : ∀ j ∈ own, j.d ≤ d → (j.c : Rat) < x → lf j.nm = 0 := fun j hj hj1 hj2 => by
        have hcn : ¬ now < (j.c : Rat) := fun z => by have := hc j hj z; grind
        by_cases hd : now < (j.d : Rat)
        · by_cases hl : lf j.nm = 0
          · exact hl
          · have := hf j hj ⟨hd, hcn, hl⟩
            omega
        · exact I.met D hj (by grind)
      refine ⟨x, Rat.le_refl, fun j hj hj1 hj2 => ?_, ?_⟩
      · by_cases e : j.nm = J.nm
        · have := same j hj e; subst this
          omega
        · rw [uN j e]; exact hz j hj hj1 hj2
      · have z0 : sw (fun j => if j.d ≤ d ∧ x ≤ (j.c : Rat) then j.w - lfu lf J.nm (lf J.nm - s * (x - now)) j.nm else 0) own = sw (fun _ => 0) own := sw_eq fun j hj => by
          by_cases h : j.d ≤ d ∧ x ≤ (j.c : Rat)
          · rw [if_pos h]
            have e : j.nm ≠ J.nm := fun e => by have := same j hj e; subst this; omega
            rw [uN j e, I.i1 j hj (by grind)]; grind
          · rw [if_neg h]
        have z1 : ∀ l : List Jq, sw (fun _ => (0 : Rat)) l = 0 := fun l => by
          induction l with
          | nil => rfl
          | cons q r ih => show (0 : Rat) + sw _ r = 0; rw [ih]; grind
        rw [z0, z1]
        grind
/-- a step ends within the window -/
theorem EdI.in_win (D : Dens own s tms) (I : EdI own s tms lf now) (ht : tms = pre ++ p :: post) (h1 : (p.1 : Rat) ≤ now) {x : Rat} (hx0 : now < x) (hx : x ≤ (p.2 : Rat)) (hJ : J ∈ own) (ha : av lf now J) (hf : ∀ k ∈ own, av lf now k → J.d ≤ k.d)
    (hw : s * (x - now) ≤ lf J.nm) (hc : ∀ o ∈ own, now < (o.c : Rat) → x ≤ (o.c : Rat)) : x ≤ (J.d : Rat) := by
  by_cases h : x ≤ (J.d : Rat)
  · exact h
  · exfalso
    have hd : (J.d : Rat) < x := by grind
    have hn : now < (J.d : Rat) := ha.1
    have hlt : s * ((J.d : Rat) - now) < s * (x - now) := mull D.s0 (by grind)
    have I2 := I.step D ht h1 hn (by grind) hJ ha hf (x := (J.d : Rat)) (by grind) (fun o ho hno => by have := hc o ho hno; grind)
    have := I2.met D hJ Rat.le_refl
    rw [lfu_same] at this
    grind
/-- from one interval to the next -/
theorem EdI.gap (D : Dens own s tms) {q : Iv} (I : EdI own s tms lf (p.2 : Rat)) (ht : tms = pre ++ p :: q :: post) : EdI own s tms lf (q.1 : Rat) := by
  have fo := D.fo
  have hpq : (p.2 : Rat) ≤ (q.1 : Rat) := by
    rw [ht] at fo
    have ho := fo.ord
    rw [List.pairwise_append] at ho
    exact icast_le ((List.pairwise_cons.mp ho.2.1).1 q (by simp))
  have e : mu tms (q.1 : Rat) = mu tms (p.2 : Rat) := by rw [ht] at fo ⊢; exact mu_gap fo
  refine ⟨I.i0, fun j hj h => I.i1 j hj (by grind), by rw [e]; exact I.i2, fun d => ?_⟩
  obtain ⟨t, t1, t2, t3⟩ := I.i3 d
  exact ⟨t, by grind, t2, by rw [e]; exact t3⟩
/-- the start -/
theorem EdI.start (D : Dens own s tms) (ht : tms = p :: post) (hl : ∀ j ∈ own, lf j.nm = j.w) : EdI own s tms lf (p.1 : Rat) := by
  have fo := D.fo
  have hz : ∀ x : Rat, x ≤ (p.1 : Rat) → mu tms x = 0 := fun x hx => by
    refine mu_zero fun q hq => ?_
    rw [ht] at fo hq
    rcases List.mem_cons.mp hq with rfl | hq
    · exact hx
    · have a := icast_le ((List.pairwise_cons.mp fo.ord).1 q hq)
      have b := icast_lt (fo.pos p (by simp)).2
      grind
  have hp0 : (0 : Rat) ≤ (p.1 : Rat) := by
    have := (fo.pos p (by rw [ht]; simp)).1
    exact_mod_cast this
  have z1 : ∀ l : List Jq, sw (fun _ => (0 : Rat)) l = 0 := fun l => by
    induction l with
    | nil => rfl
    | cons q r ih => show (0 : Rat) + sw _ r = 0; rw [ih]; grind
  refine ⟨fun j hj => by rw [hl j hj]; have := (D.job j hj).2.2; constructor <;> grind, fun j hj _ => hl j hj, ?_, fun d => ⟨0, hp0, fun j hj _ h => ?_, ?_⟩⟩
  · rw [hz _ Rat.le_refl, sw_eq (h := fun _ => 0) fun j hj => by rw [hl j hj]; grind, z1]; grind
  · have := (D.job j hj).1
    have : (0 : Rat) ≤ (j.c : Rat) := by exact_mod_cast this
    grind
  · rw [hz _ Rat.le_refl, hz 0 hp0, sw_eq (h := fun _ => 0) fun j hj => by split; rw [hl j hj]; grind; rfl, z1]; grind
/-- the end: all is done -/
theorem EdI.done (D : Dens own s tms) (I : EdI own s tms lf (p.2 : Rat)) (ht : tms = pre ++ [p]) : ∀ j ∈ own, lf j.nm = 0 := by
  have hY : ∀ q ∈ tms, (q.2 : Rat) ≤ (p.2 : Rat) := fun q hq => by
    have fo := D.fo
    rw [ht] at fo hq
    have ho := fo.ord
    rw [List.pairwise_append] at ho
    rcases List.mem_append.mp hq with hq | hq
    · have a := icast_le (ho.2.2 q hq p (by simp))
      have b := icast_lt (fo.pos p (by simp)).2
      grind
    · rw [List.mem_singleton.mp hq]; exact Rat.le_refl
  have := I.left D hY
  exact sw_all0 (g := fun j => lf j.nm) (fun j hj => (I.i0 j hj).1) (by rw [this]; grind)
end
end Pm

namespace Pm
open PySem PySem.Spec PyProof.Rows L2
/-! ## the densities of a round -/
theorem req_le {a b : Rat} (h : a = b) : a ≤ b := by rw [h]; exact Rat.le_refl
theorem mulr_le {a b c : Rat} (hc : 0 < c) (h : a * c ≤ b * c) : a ≤ b := by
  by_cases z : a ≤ b
  · exact z
  · have := Rat.mul_lt_mul_of_pos_right (show b < a by grind) hc
    grind
theorem sw_zero : ∀ {l : List Jq}, sw (fun _ => (0 : Rat)) l = 0
  | [] => rfl
  | q :: r => by show (0 : Rat) + sw _ r = 0; rw [sw_zero]; grind
theorem sw_mul {s : Rat} {g : Jq → Rat} : ∀ {l : List Jq}, sw (fun j => s * g j) l = s * sw g l
  | [] => by show (0 : Rat) = s * 0; grind
  | j :: r => by
    have := sw_mul (s := s) (g := g) (l := r)
    show s * g j + sw _ r = s * (g j + sw g r)
    rw [this]; grind
theorem sw_filter {g : Jq → Rat} {p : Jq → Bool} : ∀ {l : List Jq}, sw g (l.filter p) = sw (fun j => if p j = true then g j else 0) l
  | [] => rfl
  | j :: r => by
    have := sw_filter (g := g) (p := p) (l := r)
    rw [List.filter_cons]
    show _ = (if p j = true then g j else 0) + sw _ r
    rw [← this]
    by_cases h : p j = true
    · rw [if_pos h, if_pos h]; rfl
    · rw [if_neg h, if_neg h]; grind
theorem mu_top {Y : Rat} : ∀ {l : List Iv}, (∀ p ∈ l, p.1 < p.2 ∧ (p.2 : Rat) ≤ Y) → mu l Y = ((l.map fun p => p.2 - p.1).sum : Int)
  | [], _ => rfl
  | p :: r, h => by
    have ih := mu_top (Y := Y) (l := r) fun q hq => h q (by simp [hq])
    obtain ⟨h1, h2⟩ := h p (by simp)
    have h1' := icast_lt h1
    show mu1 p Y + mu r Y = _
    rw [ih, List.map_cons, List.sum_cons, Rat.intCast_add, Rat.intCast_sub]
    unfold mu1
    rw [if_neg (by grind)]
    split <;> grind
theorem min_of {α : Type} (f : α → Int) : ∀ {l : List α}, l ≠ [] → ∃ m ∈ l, ∀ k ∈ l, f m ≤ f k
  | [x], _ => ⟨x, by simp, fun k hk => by rw [List.mem_singleton.mp hk]; exact Int.le_refl _⟩
  | x :: y :: r, _ => by
    obtain ⟨m, hm, h⟩ := min_of f (l := y :: r) (by simp)
    by_cases hx : f x ≤ f m
    · refine ⟨x, by simp, fun k hk => ?_⟩
      rcases List.mem_cons.mp hk with rfl | hk
      · exact Int.le_refl _
      · have := h k hk; omega
    · refine ⟨m, List.mem_cons_of_mem _ hm, fun k hk => ?_⟩
      rcases List.mem_cons.mp hk with rfl | hk
      · omega
      · exact h k hk
/-- what each job must be -/
structure JqOk (S : Nat) (qs : List Jq) : Prop where
  pos : 0 < S
  nd : (qs.map (·.nm)).Nodup
  job : ∀ j ∈ qs, 0 ≤ j.c ∧ j.c < j.d ∧ 0 < j.w
  dv : ∀ j ∈ qs, j.w.den ∣ S
theorem JqOk.filter {S : Nat} {qs : List Jq} (h : JqOk S qs) {p : Jq → Bool} : JqOk S (qs.filter p) :=
  ⟨h.pos, (List.filter_sublist.map _).nodup h.nd, fun j hj => h.job j (List.mem_filter.mp hj).1, fun j hj => h.dv j (List.mem_filter.mp hj).1⟩
section
variable {S : Nat} {qs : List Jq} {fr : List Iv}
theorem ld_sw (h : JqOk S qs) {a b : Int} : (ld (rowsOf fr (qs.map (toJ S))) a b : Rat) = (S : Rat) * sw (fun j => if inR a b (rowOf fr (toJ S j)) = true then j.w else 0) qs := by
  have dv := h.dv
  clear h
  induction qs with
  | nil => show ((0 : Int) : Rat) = (S : Rat) * 0; grind
  | cons j r ih =>
    have ih := ih fun k hk => dv k (by simp [hk])
    have e : ld (rowsOf fr ((j :: r).map (toJ S))) a b = (if inR a b (rowOf fr (toJ S j)) = true then iw S j else 0) + ld (rowsOf fr (r.map (toJ S))) a b := by
      unfold ld rowsOf inR
      rw [List.map_cons, List.map_cons, List.filter_cons]
      by_cases hx : decide (a ≤ (rowOf fr (toJ S j)).f ∧ (rowOf fr (toJ S j)).l ≤ b) = true
      · rw [if_pos hx, if_pos hx, List.map_cons, List.sum_cons]; rfl
      · rw [if_neg hx, if_neg hx, Int.zero_add]
    rw [e, Rat.intCast_add, ih]
    show _ = (S : Rat) * ((if _ then j.w else 0) + sw _ r)
    have e2 := iw_rat (S := S) (j := j) (dv j (by simp))
    by_cases hx : inR a b (rowOf fr (toJ S j)) = true
    · rw [if_pos hx, if_pos hx, e2]; grind
    · rw [if_neg hx, if_neg hx]
      have : ((0 : Int) : Rat) = 0 := rfl
      rw [this]; grind
theorem nm_inj (h : (qs.map (·.nm)).Nodup) : ∀ {x y : Jq}, x ∈ qs → y ∈ qs → x.nm = y.nm → x = y := by
  induction qs with
  | nil => intro x y hx; cases hx
  | cons q r ih =>
    intro x y hx hy e
    rw [List.map_cons, List.nodup_cons] at h
    rcases List.mem_cons.mp hx with hx' | hx' <;> rcases List.mem_cons.mp hy with hy' | hy'
    · rw [hx', hy']
    · subst hx'
      exact absurd (show x.nm ∈ r.map (·.nm) from List.mem_map.mpr ⟨y, hy', e.symm⟩) h.1
    · subst hy'
      exact absurd (show y.nm ∈ r.map (·.nm) from List.mem_map.mpr ⟨x, hx', e⟩) h.1
    · exact ih h.2 hx' hy' e
theorem in_nms (h : JqOk S qs) {a b : Int} {q : Jq} (hq : q ∈ qs) : q.nm ∈ ((rowsOf fr (qs.map (toJ S))).filter (inR a b)).map (·.nm) ↔ inR a b (rowOf fr (toJ S q)) = true := by
  rw [mem_nms]
  constructor
  · rintro ⟨j, hj, e, h2⟩
    obtain ⟨q', hq', rfl⟩ := List.mem_map.mp hj
    have := nm_inj h.nd hq' hq e
    subst this
    exact h2
  · intro h2
    exact ⟨toJ S q, List.mem_map.mpr ⟨q, hq, rfl⟩, rfl, h2⟩
theorem own_eq (h : JqOk S qs) {a b : Int} : qs.filter (fun q => decide (q.nm ∈ ((rowsOf fr (qs.map (toJ S))).filter (inR a b)).map (·.nm))) = qs.filter fun q => inR a b (rowOf fr (toJ S q)) := by
  refine List.filter_congr fun q hq => ?_
  have := in_nms (fr := fr) (a := a) (b := b) h hq
  by_cases hx : inR a b (rowOf fr (toJ S q)) = true
  · rw [hx, decide_eq_true (this.mpr hx)]
  · rw [decide_eq_false (fun z => hx (this.mp z))]
    simpa using hx
/-- the first round -/
theorem dens_first (h : JqOk S qs) (ok : RsOk fr (qs.map (toJ S))) {L N a b : Int} (hb : BestOf (rowsOf fr (qs.map (toJ S))) fr (Pairs (rowsOf fr (qs.map (toJ S)))) (some (L, N, a, b))) :
    Dens (qs.filter fun q => inR a b (rowOf fr (toJ S q))) ((L : Rat) / ((N * (S : Int) : Int) : Rat)) (fp fr a b) ∧ 0 < L ∧ 0 < N := by
  have hab := best_lt ok hb
  obtain ⟨hp, ho, hL, hN, hge⟩ := id hb
  have L0 : 0 < L := by rw [hL]; exact ho
  have N0 : 0 < N := by rw [hN]; exact ok.ln_pos ho
  have S0 : (0 : Int) < (S : Int) := by have := h.pos; omega
  have LQ : (0 : Rat) < (L : Rat) := by exact_mod_cast L0
  have NQ : (0 : Rat) < (N : Rat) := by exact_mod_cast N0
  have SQ : (0 : Rat) < (S : Rat) := by exact_mod_cast h.pos
  have NS : ((N * (S : Int) : Int) : Rat) = (N : Rat) * (S : Rat) := by rw [Rat.intCast_mul]; norm_cast
  have NSp : (0 : Rat) < (N : Rat) * (S : Rat) := Rat.mul_pos NQ SQ
  rw [NS]
  generalize hs : (L : Rat) / ((N : Rat) * (S : Rat)) = s
  have hsm : s * ((N : Rat) * (S : Rat)) = (L : Rat) := by rw [← hs]; exact Rat.div_mul_cancel (by grind)
  have s0 : 0 < s := by rw [← hs]; exact qdiv_pos LQ NSp
  have win : ∀ q ∈ qs, Win fr (toJ S q) := fun q hq => ok.win _ (List.mem_map.mpr ⟨q, hq, rfl⟩)
  refine ⟨⟨s0, ok.fo.fp, (List.filter_sublist.map _).nodup h.nd, fun j hj => h.job j (List.mem_filter.mp hj).1, fun x y hxy => ?_, fun Y hY => ?_⟩, L0, N0⟩
  · have hmono : mu (fp fr a b) (x : Rat) ≤ mu (fp fr a b) (y : Rat) := mu_mono (icast_le hxy) fun p hp => fp_lt p hp
    by_cases he : (qs.filter fun q => inR a b (rowOf fr (toJ S q))).filter (fun j => decide (x ≤ j.c ∧ j.d ≤ y)) = []
    · have : sw (fun j => if x ≤ j.c ∧ j.d ≤ y then j.w else 0) (qs.filter fun q => inR a b (rowOf fr (toJ S q))) = sw (fun j => j.w) ((qs.filter fun q => inR a b (rowOf fr (toJ S q))).filter (fun j => decide (x ≤ j.c ∧ j.d ≤ y))) := by
        rw [sw_filter (p := fun j => decide (x ≤ j.c ∧ j.d ≤ y))]
        exact sw_eq fun j hj => by simp only [decide_eq_true_eq]
      rw [this, he]
      have := mulm s0 (show (0 : Rat) ≤ mu (fp fr a b) (y : Rat) - mu (fp fr a b) (x : Rat) by grind)
      show (0 : Rat) ≤ _
      grind
    · obtain ⟨m1, hm1, hf⟩ := min_of (fun j => (rowOf fr (toJ S j)).f) he
      obtain ⟨m2, hm2, hl⟩ := min_of (fun j => - (rowOf fr (toJ S j)).l) he
      rw [List.mem_filter, List.mem_filter] at hm1 hm2
      obtain ⟨⟨q1, r1⟩, x1⟩ := hm1
      obtain ⟨⟨q2, r2⟩, x2⟩ := hm2
      generalize ha' : (rowOf fr (toJ S m1)).f = a' at *
      generalize hb' : (rowOf fr (toJ S m2)).l = b' at *
      have x1 := of_decide_eq_true x1
      have x2 := of_decide_eq_true x2
      unfold inR at r1 r2
      have r1 := of_decide_eq_true r1
      have r2 := of_decide_eq_true r2
      rw [ha'] at r1
      rw [hb'] at r2
      have f1 := (rowOf_f ok.fo (win m1 q1)).1
      have l2 := (rowOf_l ok.fo (win m2 q2)).1
      rw [ha'] at f1
      rw [hb'] at l2
      have c1 : x ≤ a' := by have : (toJ S m1).c = m1.c := rfl; omega
      have c2 : b' ≤ y := by have : (toJ S m2).d = m2.d := rfl; omega
      have pr : Pairs (rowsOf fr (qs.map (toJ S))) a' b' := ⟨⟨_, List.mem_map.mpr ⟨_, List.mem_map.mpr ⟨m1, q1, rfl⟩, rfl⟩, ha'⟩, ⟨_, List.mem_map.mpr ⟨_, List.mem_map.mpr ⟨m2, q2, rfl⟩, rfl⟩, hb'⟩⟩
      have hin : ∀ j ∈ qs, (inR a b (rowOf fr (toJ S j)) = true ∧ x ≤ j.c ∧ j.d ≤ y) → inR a' b' (rowOf fr (toJ S j)) = true := fun j hj z => by
        have hm : j ∈ (qs.filter fun q => inR a b (rowOf fr (toJ S q))).filter (fun j => decide (x ≤ j.c ∧ j.d ≤ y)) := List.mem_filter.mpr ⟨List.mem_filter.mpr ⟨hj, z.1⟩, decide_eq_true z.2⟩
        have u1 := hf j hm
        have u2 := hl j hm
        unfold inR
        exact decide_eq_true ⟨u1, by omega⟩
      have e1 : sw (fun j => if x ≤ j.c ∧ j.d ≤ y then j.w else 0) (qs.filter fun q => inR a b (rowOf fr (toJ S q))) ≤ sw (fun j => if inR a' b' (rowOf fr (toJ S j)) = true then j.w else 0) qs := by
        rw [sw_filter]
        refine sw_le fun j hj => ?_
        have hw := (h.job j hj).2.2
        by_cases z1 : inR a b (rowOf fr (toJ S j)) = true
        · rw [if_pos z1]
          by_cases z2 : x ≤ j.c ∧ j.d ≤ y
          · rw [if_pos z2, if_pos (hin j hj ⟨z1, z2⟩)]; exact Rat.le_refl
          · rw [if_neg z2]
            split
            · grind
            · exact Rat.le_refl
        · rw [if_neg z1]
          split
          · grind
          · exact Rat.le_refl
      have e2 := ld_sw (fr := fr) h (a := a') (b := b')
      have hok : okP (rowsOf fr (qs.map (toJ S))) a' b' := by
        unfold okP
        have : inR a' b' (rowOf fr (toJ S m1)) = true := hin m1 q1 ⟨by unfold inR; exact decide_eq_true (by rw [ha']; exact r1), x1⟩
        have e3 := sw_one (g := fun j => if inR a' b' (rowOf fr (toJ S j)) = true then j.w else 0) (l := qs) (fun j hj => by
          have := (h.job j hj).2.2
          split
          · grind
          · exact Rat.le_refl) m1 q1
        simp only [if_pos this] at e3
        have := (h.job m1 q1).2.2
        have e4 : (0 : Rat) < (ld (rowsOf fr (qs.map (toJ S))) a' b' : Rat) := by rw [e2]; exact Rat.mul_pos SQ (by grind)
        exact_mod_cast e4
      have g := hge a' b' pr hok
      have g2 : ld (rowsOf fr (qs.map (toJ S))) a' b' * N ≤ L * ln fr a' b' := by
        rw [hL, hN]
        rcases g with g | g
        · exact Int.le_of_lt g
        · exact Int.le_of_eq g.1
      have g3 : (ld (rowsOf fr (qs.map (toJ S))) a' b' : Rat) * (N : Rat) ≤ (L : Rat) * (ln fr a' b' : Rat) := by
        have := icast_le g2
        rw [Rat.intCast_mul, Rat.intCast_mul] at this
        exact this
      have hab' : a' ≤ b' := by
        by_cases hz : a' ≤ b'
        · exact hz
        · obtain ⟨r, _, w1, w2⟩ := ld_pos_ex hok
          exfalso
          obtain ⟨j, hj, rfl⟩ := List.mem_map.mp ‹r ∈ _›
          have := rowOf_lt ok.fo (ok.win j hj)
          omega
      have hln : (ln fr a' b' : Rat) ≤ mu (fp fr a b) (y : Rat) - mu (fp fr a b) (x : Rat) := by
        rw [← ln_clip ok.fo r1.1 r2.2, ← ln_mu hab' fun p hp => fp_lt p hp]
        have w1 : mu (fp fr a b) (x : Rat) ≤ mu (fp fr a b) (a' : Rat) := mu_mono (icast_le c1) fun p hp => fp_lt p hp
        have w2 : mu (fp fr a b) (b' : Rat) ≤ mu (fp fr a b) (y : Rat) := mu_mono (icast_le c2) fun p hp => fp_lt p hp
        grind
      -- put together
      rw [e2, ← hsm] at g3
      have k1 : sw (fun j => if inR a' b' (rowOf fr (toJ S j)) = true then j.w else 0) qs * ((N : Rat) * (S : Rat)) ≤ (s * (ln fr a' b' : Rat)) * ((N : Rat) * (S : Rat)) := by grind
      have k2 : sw (fun j => if inR a' b' (rowOf fr (toJ S j)) = true then j.w else 0) qs ≤ s * (ln fr a' b' : Rat) := mulr_le NSp k1
      have k3 := mulm s0 hln
      grind
  · have e1 := ld_sw (fr := fr) h (a := a) (b := b)
    rw [← hL, ← hsm] at e1
    rw [sw_filter]
    have e2 : mu (fp fr a b) Y = (N : Rat) := by
      rw [mu_top fun p hp => ⟨fp_lt p hp, hY p hp⟩, hN]; rfl
    rw [e2]
    have e3 : (s * (N : Rat)) * (S : Rat) = (sw (fun j => if inR a b (rowOf fr (toJ S j)) = true then j.w else 0) qs) * (S : Rat) := by grind
    have e4 : s * (N : Rat) = sw (fun j => if inR a b (rowOf fr (toJ S j)) = true then j.w else 0) qs := by
      have u1 := mulr_le SQ (req_le e3)
      have u2 := mulr_le SQ (req_le e3.symm)
      exact Rat.le_antisymm u1 u2
    exact e4.symm
end
end Pm

namespace Pm
open PySem PySem.Spec PyProof.Rows L2
/-! ## parts of m -/
def Gr (m : Int) (x : Rat) : Prop := ∃ i : Int, x * (m : Rat) = (i : Rat)
section
variable {m k : Int} {x y : Rat}
theorem Gr.int {a : Int} : Gr m (a : Rat) := ⟨a * m, by rw [Rat.intCast_mul]⟩
theorem Gr.add (h : Gr m x) (h' : Gr m y) : Gr m (x + y) := by
  obtain ⟨i, e⟩ := h
  obtain ⟨j, f⟩ := h'
  exact ⟨i + j, by rw [Rat.intCast_add]; grind⟩
theorem Gr.sub (h : Gr m x) (h' : Gr m y) : Gr m (x - y) := by
  obtain ⟨i, e⟩ := h
  obtain ⟨j, f⟩ := h'
  exact ⟨i - j, by rw [Rat.intCast_sub]; grind⟩
theorem Gr.den (h : Gr m x) : x.den ∣ m.natAbs := by
  obtain ⟨i, e⟩ := h
  have h1 := num_eq x
  have h2 : ((x.num * m : Int) : Rat) = ((i * (x.den : Int) : Int) : Rat) := by
    rw [Rat.intCast_mul, Rat.intCast_mul, h1, ← e]; grind
  have h3 : x.num * m = i * (x.den : Int) := by exact_mod_cast h2
  have h4 := congrArg Int.natAbs h3
  rw [Int.natAbs_mul, Int.natAbs_mul, Int.natAbs_natCast] at h4
  have h5 : x.den ∣ x.num.natAbs * m.natAbs := ⟨i.natAbs, by rw [h4, Nat.mul_comm]⟩
  exact Nat.Coprime.dvd_of_dvd_mul_left x.reduced.symm h5
theorem Gr.bq {M : Int} {a n : Nat} (h : Gr m x) (hm : 0 < m) (h0 : 0 ≤ x) (h1 : x ≤ (M : Rat)) (hk : Bs a m) (hM : Bs n M) : Bq (n + a) x := by
  have hd := Nat.le_of_dvd (by omega) h.den
  have hp := x.den_pos
  have b1 : Bs a (x.den : Int) := hk.le (by omega)
  have hn := num_eq x
  have hdq : (0 : Rat) < ((x.den : Int) : Rat) := by exact_mod_cast hp
  have n1 : 0 ≤ x.num := by
    have : (0 : Rat) ≤ (x.num : Rat) := by rw [hn]; exact Rat.mul_nonneg h0 (by grind)
    exact_mod_cast this
  have n2 : x.num ≤ M * (x.den : Int) := by
    have : (x.num : Rat) ≤ ((M * (x.den : Int) : Int) : Rat) := by
      rw [hn, Rat.intCast_mul]
      exact Rat.mul_le_mul_of_nonneg_right h1 (by grind)
    exact_mod_cast this
  exact ⟨(hM.mul b1).nn n1 n2, b1.mono (by omega)⟩
end
/-! ## the state within an interval -/
structure EdS (own : List Jq) (s : Rat) (tms : List Iv) (S : Nat) (lf : Lf) (now : Rat) : Prop where
  i : EdI own s tms lf now
  g1 : Gr (s.num * (S : Int)) now
  g2 : ∀ j ∈ own, Gr ((s.den : Int) * (S : Int)) (lf j.nm)
def ms (own : List Jq) (lf : Lf) (now : Rat) : Nat := own.countP (fun j => decide (lf j.nm ≠ 0)) + own.countP (fun j => decide (now < (j.c : Rat)))
theorem ms_le {own : List Jq} {lf : Lf} {now : Rat} : ms own lf now ≤ 2 * own.length := by
  unfold ms
  have a := List.countP_le_length (p := fun j => decide (lf j.nm ≠ 0)) (l := own)
  have b := List.countP_le_length (p := fun j => decide (now < (j.c : Rat))) (l := own)
  omega
theorem countP_lt {α : Type} {p q : α → Bool} : ∀ {l : List α} {x : α}, x ∈ l → (∀ y ∈ l, p y = true → q y = true) → p x = false → q x = true → l.countP p < l.countP q
  | y :: l, x, hx, h, hp, hq => by
    have hl : l.countP p ≤ l.countP q := List.countP_mono_left fun z hz => h z (by simp [hz])
    rw [List.countP_cons, List.countP_cons]
    rcases List.mem_cons.mp hx with rfl | hx
    · rw [hp, hq]; simp; omega
    · have := countP_lt hx (fun z hz => h z (by simp [hz])) hp hq
      have hy := h y (by simp)
      cases q1 : p y <;> cases q2 : q y <;> simp_all <;> omega
section
variable {own : List Jq} {s fin : Rat} {tms pre post : List Iv} {p : Iv} {lf lf' : Lf} {now : Rat} {S : Nat}
theorem num_pos (h : 0 < s) : 0 < s.num := by
  have := (Rat.lt_iff 0 s).mp h
  simpa using this
theorem EdS.step (D : Dens own s tms) (I : EdS own s tms S lf now) (ht : tms = pre ++ p :: post) (h1 : (p.1 : Rat) ≤ now) (h2 : now < (p.2 : Rat)) : ∃ J, fd own lf now = some J ∧ J ∈ own ∧ av lf now J ∧ 0 < lf J.nm ∧ now < ut own s lf now (p.2 : Rat) J ∧ ut own s lf now (p.2 : Rat) J ≤ (p.2 : Rat) ∧ ut own s lf now (p.2 : Rat) J ≤ (J.d : Rat) ∧
    s * (ut own s lf now (p.2 : Rat) J - now) ≤ lf J.nm ∧
    EdS own s tms S (lfu lf J.nm (lf J.nm - s * (ut own s lf now (p.2 : Rat) J - now))) (ut own s lf now (p.2 : Rat) J) ∧
    (ut own s lf now (p.2 : Rat) J = (p.2 : Rat) ∨ ms own (lfu lf J.nm (lf J.nm - s * (ut own s lf now (p.2 : Rat) J - now))) (ut own s lf now (p.2 : Rat) J) < ms own lf now) ∧
    ms own (lfu lf J.nm (lf J.nm - s * (ut own s lf now (p.2 : Rat) J - now))) (ut own s lf now (p.2 : Rat) J) ≤ ms own lf now := by
  obtain ⟨j0, hj0, ha0⟩ := I.i.busy D ht h1 h2
  have hfd := fd_spec lf now own
  cases e : fd own lf now with
  | none => rw [e] at hfd; exact absurd ha0 (hfd j0 hj0)
  | some J =>
    rw [e] at hfd
    obtain ⟨hJ, ha, hf⟩ := hfd
    have s0 := D.s0
    have hl : 0 < lf J.nm := by
      have := (I.i.i0 J hJ).1
      have := ha.2.2
      grind
    obtain ⟨u1, u2, u3, u4, u5⟩ := ut_spec (own := own) (now := now) (j := J) s0 hl h2
    refine ⟨J, rfl, ?_⟩
    generalize hu : ut own s lf now (p.2 : Rat) J = u at *
    have hq : lf J.nm / s * s = lf J.nm := Rat.div_mul_cancel (by grind)
    have hw : s * (u - now) ≤ lf J.nm := by
      have a := mulm s0 (show u - now ≤ lf J.nm / s by grind)
      have b : s * (lf J.nm / s) = lf J.nm := by rw [Rat.mul_comm]; exact hq
      rw [b] at a; exact a
    have I2 := I.i.step D ht h1 u1 u2 hJ ha hf hw u4
    have hin := I.i.in_win D ht h1 u1 u2 hJ ha hf hw u4
    have nA : s * ((s.den : Int) : Rat) = (s.num : Rat) := (num_eq s).symm
    have gq : Gr (s.num * (S : Int)) (lf J.nm / s) := by
      obtain ⟨i, ei⟩ := I.g2 J hJ
      refine ⟨i, ?_⟩
      rw [Rat.intCast_mul, ← nA]
      rw [Rat.intCast_mul] at ei
      have : lf J.nm / s * (s * ((s.den : Int) : Rat) * ((S : Int) : Rat)) = (lf J.nm / s * s) * (((s.den : Int) : Rat) * ((S : Int) : Rat)) := by grind
      rw [this, hq]; exact ei
    have gu : Gr (s.num * (S : Int)) u := by
      rcases u5 with z | z | ⟨o, _, _, z⟩
      · rw [z]; exact Gr.int
      · rw [z]; exact I.g1.add gq
      · rw [z]; exact Gr.int
    have gd : Gr ((s.den : Int) * (S : Int)) (s * (u - now)) := by
      obtain ⟨i, ei⟩ := gu.sub I.g1
      refine ⟨i, ?_⟩
      rw [Rat.intCast_mul]
      rw [Rat.intCast_mul, ← nA] at ei
      grind
    refine ⟨hJ, ha, hl, u1, u2, hin, hw, ⟨I2, gu, fun j hj => ?_⟩, ?_⟩
    · by_cases ej : j.nm = J.nm
      · rw [ej, lfu_same]; exact (I.g2 J hJ).sub gd
      · rw [lfu_ne ej]; exact I.g2 j hj
    · have k1 : ∀ j ∈ own, decide (lfu lf J.nm (lf J.nm - s * (u - now)) j.nm ≠ 0) = true → decide (lf j.nm ≠ 0) = true := fun j hj z => by
        have z := of_decide_eq_true z
        by_cases ej : j.nm = J.nm
        · rw [ej]; exact decide_eq_true ha.2.2
        · rw [lfu_ne ej] at z; exact decide_eq_true z
      have k2 : ∀ j ∈ own, decide (u < (j.c : Rat)) = true → decide (now < (j.c : Rat)) = true := fun j hj z => by
        have z := of_decide_eq_true z
        exact decide_eq_true (by grind)
      have l1 : own.countP (fun j => decide (lfu lf J.nm (lf J.nm - s * (u - now)) j.nm ≠ 0)) ≤ own.countP (fun j => decide (lf j.nm ≠ 0)) := List.countP_mono_left k1
      have l2 : own.countP (fun j => decide (u < (j.c : Rat))) ≤ own.countP (fun j => decide (now < (j.c : Rat))) := List.countP_mono_left k2
      refine ⟨?_, by unfold ms; omega⟩
      rcases u5 with z | z | ⟨o, ho, hn, z⟩
      · exact .inl z
      · right
        have : own.countP (fun j => decide (lfu lf J.nm (lf J.nm - s * (u - now)) j.nm ≠ 0)) < own.countP (fun j => decide (lf j.nm ≠ 0)) := countP_lt hJ k1 (by
          refine decide_eq_false fun q => q ?_
          rw [lfu_same]
          have : u - now = lf J.nm / s := by grind
          rw [this, Rat.mul_comm, hq]; grind) (decide_eq_true ha.2.2)
        unfold ms; omega
      · right
        have : own.countP (fun j => decide (u < (j.c : Rat))) < own.countP (fun j => decide (now < (j.c : Rat))) := countP_lt ho k2 (decide_eq_false (by rw [z]; grind)) (decide_eq_true hn)
        unfold ms; omega
end
/-! ## the pieces of an interval, of a round -/
inductive Ed (own : List Jq) (s fin : Rat) : Lf → Rat → List Pc → Lf → Prop
  | stop {lf : Lf} {now : Rat} (h : ¬ now < fin) : Ed own s fin lf now [] lf
  | go {lf lf' : Lf} {now : Rat} {ps : List Pc} {J : Jq} (h : now < fin) (hf : fd own lf now = some J)
      (t : Ed own s fin (lfu lf J.nm (lf J.nm - s * (ut own s lf now fin J - now))) (ut own s lf now fin J) ps lf') : Ed own s fin lf now (⟨now, ut own s lf now fin J, J.nm, s⟩ :: ps) lf'
inductive Eds (own : List Jq) (s : Rat) : List Iv → Lf → List Pc → Lf → Prop
  | nil {lf : Lf} : Eds own s [] lf [] lf
  | cons {lf lf1 lf2 : Lf} {p : Iv} {tms : List Iv} {ps qs : List Pc} (h : Ed own s (p.2 : Rat) lf (p.1 : Rat) ps lf1) (t : Eds own s tms lf1 qs lf2) : Eds own s (p :: tms) lf (ps ++ qs) lf2
section
variable {own : List Jq} {s fin : Rat} {tms : List Iv} {lf lf1 lf2 : Lf} {now : Rat} {ps qs : List Pc}
theorem Ed.uniq (h1 : Ed own s fin lf now ps lf1) (h2 : Ed own s fin lf now qs lf2) : ps = qs ∧ lf1 = lf2 := by
  induction h1 generalizing qs lf2 with
  | stop h =>
    cases h2 with
    | stop _ => exact ⟨rfl, rfl⟩
    | go h' _ _ => exact absurd h' h
  | go h hf t ih =>
    cases h2 with
    | stop h' => exact absurd h h'
    | go h' hf' t' =>
      rw [hf] at hf'
      cases hf'
      obtain ⟨e1, e2⟩ := ih t'
      exact ⟨by rw [e1], e2⟩
theorem Eds.uniq (h1 : Eds own s tms lf ps lf1) (h2 : Eds own s tms lf qs lf2) : ps = qs ∧ lf1 = lf2 := by
  induction h1 generalizing qs lf2 with
  | nil => cases h2 with | nil => exact ⟨rfl, rfl⟩
  | cons h t ih =>
    cases h2 with
    | cons h' t' =>
      obtain ⟨rfl, rfl⟩ := h.uniq h'
      obtain ⟨rfl, rfl⟩ := ih t'
      exact ⟨rfl, rfl⟩
end
/-- what each piece is -/
structure PcOk (own : List Jq) (s : Rat) (S : Nat) (p : Pc) : Prop where
  lt : p.s < p.e
  v : p.v = s
  job : ∃ j ∈ own, j.nm = p.nm ∧ (j.c : Rat) ≤ p.s ∧ p.e ≤ (j.d : Rat)
  g1 : Gr (s.num * (S : Int)) p.s
  g2 : Gr (s.num * (S : Int)) p.e
/-- the work that pieces do on a name -/
def wkp (n : Str) (p : Pc) : Rat := if p.nm = n then p.v * (p.e - p.s) else 0
def wks (n : Str) : List Pc → Rat
  | [] => 0
  | p :: r => wkp n p + wks n r
theorem wks_app {n : Str} : ∀ {ps qs : List Pc}, wks n (ps ++ qs) = wks n ps + wks n qs
  | [], qs => by show wks n qs = 0 + wks n qs; grind
  | p :: r, qs => by
    have := wks_app (n := n) (ps := r) (qs := qs)
    show wkp n p + wks n (r ++ qs) = (wkp n p + wks n r) + wks n qs
    grind
section
variable {own : List Jq} {s : Rat} {tms pre post : List Iv} {p : Iv} {lf lf' : Lf} {now : Rat} {S : Nat} {ps : List Pc}
theorem Ed.ok (D : Dens own s tms) (ht : tms = pre ++ p :: post) (h : Ed own s (p.2 : Rat) lf now ps lf') (I : EdS own s tms S lf now) (h1 : (p.1 : Rat) ≤ now) (h2 : now ≤ (p.2 : Rat)) :
    EdS own s tms S lf' (p.2 : Rat) ∧ (∀ q ∈ ps, PcOk own s S q ∧ now ≤ q.s ∧ q.e ≤ (p.2 : Rat)) ∧ ps.Pairwise (fun x y => x.e ≤ y.s) ∧ ps.length + ms own lf' (p.2 : Rat) ≤ ms own lf now + 1 ∧ ∀ n, wks n ps = lf n - lf' n := by
  induction h with
  | @stop lf now h =>
    have e : now = (p.2 : Rat) := by grind
    subst e
    exact ⟨I, fun q hq => (by cases hq), .nil, by simp, fun n => by show (0 : Rat) = _; grind⟩
  | @go lf lf' now ps J h hf t ih =>
    obtain ⟨J', e, hJ, ha, hl, u1, u2, u3, hw, I2, u4, u5⟩ := I.step D ht h1 h
    rw [hf] at e
    cases e
    obtain ⟨a1, a2, a3, a4, a5⟩ := ih I2 (by grind) u2
    generalize hu : ut own s lf now (p.2 : Rat) J = u at *
    refine ⟨a1, fun q hq => ?_, List.pairwise_cons.mpr ⟨fun q hq => (a2 q hq).2.1, a3⟩, ?_, fun n => ?_⟩
    · rcases List.mem_cons.mp hq with rfl | hq
      · refine ⟨⟨u1, rfl, ⟨J, hJ, rfl, ?_, u3⟩, I.g1, I2.g1⟩, Rat.le_refl, u2⟩
        have := ha.2.1
        show (J.c : Rat) ≤ now
        grind
      · obtain ⟨b1, b2, b3⟩ := a2 q hq
        exact ⟨b1, by grind, b3⟩
    · rw [List.length_cons]
      rcases u4 with z | z
      · have : ps = [] := by
          cases t with
          | stop _ => rfl
          | go h' _ _ => exfalso; grind
        subst this
        have e2 : lf' = lfu lf J.nm (lf J.nm - s * (u - now)) := by
          cases t with
          | stop _ => rfl
        rw [e2, ← z]
        simp; omega
      · omega
    · show wkp n _ + wks n ps = _
      rw [a5 n]
      unfold wkp
      dsimp only
      by_cases e : J.nm = n
      · subst e
        rw [if_pos rfl, lfu_same]; grind
      · rw [if_neg e, lfu_ne (fun z => e z.symm)]; grind
theorem Eds.ok {tm2 : List Iv} (D : Dens own s tms) (h : Eds own s tm2 lf ps lf') : ∀ {pre : List Iv}, tms = pre ++ tm2 → (∀ p r, tm2 = p :: r → EdS own s tms S lf (p.1 : Rat)) →
    (∀ q ∈ ps, PcOk own s S q ∧ ∃ p ∈ tm2, (p.1 : Rat) ≤ q.s ∧ q.e ≤ (p.2 : Rat)) ∧ ps.Pairwise (fun x y => x.e ≤ y.s) ∧ ps.length ≤ 2 * own.length + tm2.length ∧ (∀ n, wks n ps = lf n - lf' n) ∧ (tm2 ≠ [] → ∀ j ∈ own, lf' j.nm = 0) ∧ (∀ p r, tm2 = p :: r → ps.length ≤ ms own lf (p.1 : Rat) + tm2.length) := by
  induction h with
  | nil =>
    intro pre _ _
    exact ⟨fun q hq => (by cases hq), .nil, by simp, fun n => (by show (0 : Rat) = _; grind), fun z => absurd rfl z, fun p r e => (by cases e)⟩
  | @cons lf lf1 lf2 p tm3 ps qs h t ih =>
    intro pre ht hI
    have I := hI p tm3 rfl
    have hp := (D.fo.pos p (by rw [ht]; simp)).2
    obtain ⟨a1, a2, a3, a4, a5⟩ := h.ok D ht I Rat.le_refl (icast_le (Int.le_of_lt hp))
    have hnx : ∀ q r, tm3 = q :: r → EdS own s tms S lf1 (q.1 : Rat) := fun q r e => by
      subst e
      exact ⟨a1.i.gap D ht, Gr.int, a1.g2⟩
    obtain ⟨b1, b2, b3, b4, b5, b6⟩ := ih (pre := pre ++ [p]) (by rw [ht]; simp) hnx
    have hlen : ps.length + qs.length ≤ ms own lf (p.1 : Rat) + (tm3.length + 1) := by
      cases hc : tm3 with
      | nil =>
        subst hc
        have : qs = [] := by cases t; rfl
        subst this
        simp; omega
      | cons q r =>
        have := b6 q r hc
        have hm : ms own lf1 (q.1 : Rat) ≤ ms own lf1 (p.2 : Rat) := by
          unfold ms
          have hpq : (p.2 : Rat) ≤ (q.1 : Rat) := by
            have fo := D.fo.ord
            rw [ht, hc, List.pairwise_append] at fo
            exact icast_le ((List.pairwise_cons.mp fo.2.1).1 q (by simp))
          have : own.countP (fun j => decide ((q.1 : Rat) < (j.c : Rat))) ≤ own.countP (fun j => decide ((p.2 : Rat) < (j.c : Rat))) := List.countP_mono_left fun j hj z => decide_eq_true (by have := of_decide_eq_true z; grind)
          omega
        rw [hc] at this
        rw [List.length_cons] at this ⊢
        omega
    refine ⟨fun q hq => ?_, ?_, ?_, fun n => ?_, fun _ => ?_, fun p' r e => ?_⟩
    · rcases List.mem_append.mp hq with hq | hq
      · obtain ⟨c1, c2, c3⟩ := a2 q hq
        exact ⟨c1, p, by simp, c2, c3⟩
      · obtain ⟨c1, p', hp', c2, c3⟩ := b1 q hq
        exact ⟨c1, p', by simp [hp'], c2, c3⟩
    · rw [List.pairwise_append]
      refine ⟨a3, b2, fun x hx y hy => ?_⟩
      obtain ⟨_, _, c3⟩ := a2 x hx
      obtain ⟨_, p', hp', d2, _⟩ := b1 y hy
      have fo := D.fo.ord
      rw [ht, List.pairwise_append] at fo
      have := icast_le ((List.pairwise_cons.mp fo.2.1).1 p' hp')
      grind
    · rw [List.length_append, List.length_cons]
      have := ms_le (own := own) (lf := lf) (now := (p.1 : Rat))
      omega
    · rw [wks_app, a5, b4]; grind
    · by_cases hc : tm3 = []
      · subst hc
        have : lf2 = lf1 := by cases t; rfl
        rw [this]
        exact a1.i.done D ht
      · exact b5 hc
    · cases e
      rw [List.length_append, List.length_cons]
      exact hlen
end
/-- at the start -/
def lf0 (own : List Jq) : Lf := fun n => match own.find? (fun j => decide (j.nm = n)) with
  | some j => j.w
  | none => 0
theorem lf0_w : ∀ {own : List Jq}, (own.map (·.nm)).Nodup → ∀ j ∈ own, lf0 own j.nm = j.w
  | q :: r, h, j, hj => by
    rw [List.map_cons, List.nodup_cons] at h
    unfold lf0
    rw [List.find?_cons]
    rcases List.mem_cons.mp hj with rfl | hj'
    · rw [decide_eq_true rfl]
    · have : ¬ q.nm = j.nm := fun e => h.1 (by rw [e]; exact List.mem_map.mpr ⟨j, hj', rfl⟩)
      rw [decide_eq_false this]
      exact lf0_w h.2 j hj'
theorem EdS.start {own : List Jq} {s : Rat} {tms post : List Iv} {p : Iv} {S : Nat} (D : Dens own s tms) (ht : tms = p :: post) (hd : ∀ j ∈ own, j.w.den ∣ S) : EdS own s tms S (lf0 own) (p.1 : Rat) := by
  refine ⟨EdI.start D ht (lf0_w D.nd), Gr.int, fun j hj => ?_⟩
  rw [lf0_w D.nd j hj]
  refine ⟨(s.den : Int) * iw S j, ?_⟩
  have := iw_rat (hd j hj)
  rw [Rat.intCast_mul, Rat.intCast_mul, this]
  have e : ((S : Int) : Rat) = (S : Rat) := by norm_cast
  rw [e]; grind
end Pm

namespace Pm
open PySem PySem.Spec PyProof.Rows L2
/-! ## all rounds -/
def ownR (qs : List Jq) (r : Rd) : List Jq := qs.filter fun q => decide (q.nm ∈ r.nms)
def spR (S : Nat) (r : Rd) : Rat := (r.L : Rat) / ((r.N * (S : Int) : Int) : Rat)
inductive Pcs (qs : List Jq) (S : Nat) : List Rd → List Pc → Prop
  | nil : Pcs qs S [] []
  | cons {r : Rd} {rs : List Rd} {ps ps' : List Pc} {lf' : Lf} (h : Eds (ownR qs r) (spR S r) r.tms (lf0 (ownR qs r)) ps lf') (t : Pcs qs S rs ps') : Pcs qs S (r :: rs) (ps ++ ps')
theorem Pcs.uniq {qs : List Jq} {S : Nat} {rs : List Rd} {ps ps' : List Pc} (h1 : Pcs qs S rs ps) (h2 : Pcs qs S rs ps') : ps = ps' := by
  induction h1 generalizing ps' with
  | nil => cases h2; rfl
  | cons h t ih =>
    cases h2 with
    | cons h' t' => rw [(h.uniq h').1, ih t']
structure RdOk (qs : List Jq) (S : Nat) (M W : Int) (r : Rd) : Prop where
  dens : Dens (ownR qs r) (spR S r) r.tms
  L0 : 0 < r.L
  LW : r.L ≤ W
  N0 : 0 < r.N
  NM : r.N ≤ M
  top : ∀ p ∈ r.tms, p.2 ≤ M
  ne : r.tms ≠ []
theorem Rnds.all {S : Nat} {M W : Int} {js : List Job} {fr : List Iv} {rs : List Rd} (hr : Rnds js fr rs) : ∀ {qs : List Jq}, js = qs.map (toJ S) → JqOk S qs → RsOk fr js → 0 ≤ M → (∀ p ∈ fr, p.2 ≤ M) → wtot js ≤ W →
    (∀ r ∈ rs, RdOk qs S M W r ∧ ∀ p ∈ r.tms, ∃ q ∈ fr, q.1 ≤ p.1 ∧ p.2 ≤ q.2) ∧ rs.Pairwise (fun r s => ∀ p ∈ r.tms, ∀ q ∈ s.tms, p.2 ≤ q.1 ∨ q.2 ≤ p.1) ∧ (rs.map (·.tms.length)).sum + fr.length ≤ fr.length * 2 ^ js.length := by
  induction hr with
  | nil => intro qs _ _ _ _ _ _; exact ⟨fun r hr => (by cases hr), .nil, by simp⟩
  | @cons js fr L N a b rs hn hb hnx ih =>
    intro qs ejs hq ok M0 hM hW
    subst ejs
    have hab := best_lt ok hb
    have hnok := ok.next hb
    have hless := round_less hb
    obtain ⟨dn, L0, N0⟩ := dens_first hq ok hb
    rw [← own_eq hq] at dn
    obtain ⟨hp, ho, hL, hN, _⟩ := id hb
    generalize hnm : ((rowsOf fr (qs.map (toJ S))).filter (inR a b)).map (·.nm) = nms at *
    have ejs : (qs.map (toJ S)).filter (outR nms) = (qs.filter fun q => !decide (q.nm ∈ nms)).map (toJ S) := by
      rw [List.filter_map]; rfl
    have hq2 : JqOk S (qs.filter fun q => !decide (q.nm ∈ nms)) := hq.filter
    obtain ⟨i1, i2, i3⟩ := ih ejs hq2 hnok M0 (fr_bd hM) (Int.le_trans (wtot_filter ok.pos) hW)
    have hown : ∀ r ∈ rs, ownR (qs.filter fun q => !decide (q.nm ∈ nms)) r = ownR qs r := fun r hr => by
      unfold ownR
      rw [List.filter_filter]
      refine List.filter_congr fun q hq => ?_
      by_cases h : q.nm ∈ r.nms
      · have : q.nm ∉ nms := fun z => by
          obtain ⟨j, hj, e⟩ := hnx.sub r hr _ h
          have := (List.mem_filter.mp hj).2
          unfold outR at this
          rw [e, decide_eq_true z] at this
          cases this
        rw [decide_eq_true h, decide_eq_false this]; rfl
      · rw [decide_eq_false h]; rfl
    have hlN : N ≤ M := by rw [hN]; exact ln_le ok.fo M0 hM
    have hlL : L ≤ W := by rw [hL]; exact Int.le_trans (ld_le ok.pos) hW
    have fpin : ∀ p ∈ fp fr a b, (∃ q ∈ fr, q.1 ≤ p.1 ∧ p.2 ≤ q.2) ∧ a ≤ p.1 ∧ p.2 ≤ b := fun p hp => by
      obtain ⟨q, hq, rfl, _⟩ := mem_fp.mp hp
      unfold clp
      exact ⟨⟨q, hq, by simp only; omega, by simp only; omega⟩, by simp only; omega, by simp only; omega⟩
    have tain : ∀ p ∈ ta fr a b, (∃ q ∈ fr, q.1 ≤ p.1 ∧ p.2 ≤ q.2) ∧ (p.2 ≤ a ∨ b ≤ p.1) := fun p hp => by
      unfold ta at hp
      rcases List.mem_append.mp hp with hp | hp
      all_goals
        obtain ⟨q, hq, rfl, _⟩ := mem_fp.mp hp
        unfold clp
        exact ⟨⟨q, hq, by simp only; omega, by simp only; omega⟩, by simp only; omega⟩
    refine ⟨fun r hr => ?_, List.pairwise_cons.mpr ⟨fun s hs p hp q hq' => ?_, i2⟩, ?_⟩
    · rcases List.mem_cons.mp hr with rfl | hr
      · refine ⟨⟨dn, L0, hlL, N0, hlN, fun p hp => ?_, fun z => ?_⟩, fun p hp => (fpin p hp).1⟩
        · obtain ⟨⟨q, hq, _, h2⟩, _⟩ := fpin p hp
          have := hM q hq; omega
        · have z : fp fr a b = [] := z
          rw [hN] at N0
          unfold ln at N0
          rw [z] at N0
          simp at N0
      · obtain ⟨k1, k2⟩ := i1 r hr
        refine ⟨⟨by have := k1.dens; rw [hown r hr] at this; exact this, k1.L0, k1.LW, k1.N0, k1.NM, k1.top, k1.ne⟩, fun p hp => ?_⟩
        obtain ⟨q, hq, h1, h2⟩ := k2 p hp
        obtain ⟨⟨q', hq', h3, h4⟩, _⟩ := tain q hq
        exact ⟨q', hq', by omega, by omega⟩
    · obtain ⟨_, h1, h2⟩ := fpin p hp
      obtain ⟨q', hq', h3, h4⟩ := (i1 s hs).2 q hq'
      obtain ⟨_, h5⟩ := tain q' hq'
      omega
    · rw [List.map_cons, List.sum_cons]
      have h1 : (fp fr a b).length ≤ fr.length := fp_len
      have h2 : (ta fr a b).length ≤ 2 * fr.length := by
        unfold ta
        rw [List.length_append]
        have h1 := fp_len (fr := fr) (b := 0) (e := a)
        have h2 := fp_len (fr := fr) (b := b) (e := lastE fr)
        omega
      generalize (rs.map (·.tms.length)).sum = sm at *
      generalize hq : ((qs.map (toJ S)).filter (outR nms)).length = n at *
      have h3 : (2 : Nat) ^ (n + 1) ≤ 2 ^ (qs.map (toJ S)).length := Nat.pow_le_pow_right (by omega) (by omega)
      obtain ⟨Y, hY⟩ : ∃ Y, 2 ^ n = Y + 1 := ⟨2 ^ n - 1, by have : 0 < 2 ^ n := Nat.pow_pos (by omega); omega⟩
      rw [Nat.pow_succ, hY] at h3
      rw [hY, Nat.mul_add, Nat.mul_one] at i3
      have h4 : (ta fr a b).length * Y ≤ (2 * fr.length) * Y := Nat.mul_le_mul_right _ h2
      have h5 : fr.length * ((Y + 1) * 2) ≤ fr.length * 2 ^ (qs.map (toJ S)).length := Nat.mul_le_mul_left _ h3
      have h6 : fr.length * ((Y + 1) * 2) = 2 * fr.length * Y + 2 * fr.length := by
        rw [Nat.add_mul, Nat.mul_add, Nat.one_mul, ← Nat.mul_assoc, Nat.mul_comm (fr.length * Y) 2, ← Nat.mul_assoc, Nat.mul_comm fr.length 2]
      show (fp fr a b).length + sm + fr.length ≤ _
      omega
/-- all pieces -/
theorem Pcs.ok {qs : List Jq} {S : Nat} {M W : Int} {rs : List Rd} {ps : List Pc} (h : Pcs qs S rs ps) (hd : ∀ q ∈ qs, q.w.den ∣ S) : (∀ r ∈ rs, RdOk qs S M W r) → rs.Pairwise (fun r s => ∀ p ∈ r.tms, ∀ q ∈ s.tms, p.2 ≤ q.1 ∨ q.2 ≤ p.1) →
    (∀ p ∈ ps, ∃ r ∈ rs, PcOk (ownR qs r) (spR S r) S p ∧ ∃ iv ∈ r.tms, (iv.1 : Rat) ≤ p.s ∧ p.e ≤ (iv.2 : Rat)) ∧ ps.Pairwise (fun x y => x.e ≤ y.s ∨ y.e ≤ x.s) ∧ ps.length ≤ 2 * (rs.length * qs.length) + (rs.map (·.tms.length)).sum := by
  induction h with
  | nil => intro _ _; exact ⟨fun p hp => (by cases hp), .nil, by simp⟩
  | @cons r rs ps ps' lf' h t ih =>
    intro hall hap
    rw [List.pairwise_cons] at hap
    have R := hall r (by simp)
    obtain ⟨i1, i2, i3⟩ := ih (fun s hs => hall s (by simp [hs])) hap.2
    have hdo : ∀ j ∈ ownR qs r, j.w.den ∣ S := fun j hj => hd j (List.mem_filter.mp hj).1
    obtain ⟨a1, a2, a3, a4, a5, a6⟩ := Eds.ok (S := S) R.dens h (pre := []) rfl fun p post e => by rw [e]; exact EdS.start (by have := R.dens; rw [e] at this; exact this) rfl hdo
    refine ⟨fun p hp => ?_, ?_, ?_⟩
    · rcases List.mem_append.mp hp with hp | hp
      · obtain ⟨b1, b2⟩ := a1 p hp
        exact ⟨r, by simp, b1, b2⟩
      · obtain ⟨s, hs, b⟩ := i1 p hp
        exact ⟨s, by simp [hs], b⟩
    · rw [List.pairwise_append]
      refine ⟨a2.imp fun z => .inl z, i2, fun x hx y hy => ?_⟩
      obtain ⟨_, iv, hiv, b1, b2⟩ := a1 x hx
      obtain ⟨s, hs, _, iw, hiw, c1, c2⟩ := i1 y hy
      rcases hap.1 s hs iv hiv iw hiw with z | z
      · left; have := icast_le z; grind
      · right; have := icast_le z; grind
    · rw [List.length_append, List.length_cons, List.map_cons, List.sum_cons]
      have : (ownR qs r).length ≤ qs.length := List.length_filter_le _ _
      have e : (rs.length + 1) * qs.length = rs.length * qs.length + qs.length := by rw [Nat.add_mul, Nat.one_mul]
      rw [e]; omega
/-! ## in the order of the times -/
def ordM (acc : List Pc) (p : Pc) : Nat := acc.countP fun q => decide (q.s < p.s)
def ordI (acc : List Pc) (p : Pc) : List Pc := acc.take (ordM acc p) ++ p :: acc.drop (ordM acc p)
def ordT (l : List Pc) : List Pc := l.foldl ordI []
def Sto (l : List Pc) : Prop := l.Pairwise fun x y => x.s < y.s
theorem ordM_le {acc : List Pc} {p : Pc} : ordM acc p ≤ acc.length := List.countP_le_length
theorem ord_split {p : Pc} : ∀ {acc : List Pc}, Sto acc → (∀ x ∈ acc.take (ordM acc p), x.s < p.s) ∧ ∀ x ∈ acc.drop (ordM acc p), ¬ x.s < p.s
  | [], _ => ⟨fun x h => (by simp at h), fun x h => (by simp at h)⟩
  | a :: r, h => by
    unfold Sto at h
    rw [List.pairwise_cons] at h
    obtain ⟨i1, i2⟩ := ord_split (p := p) h.2
    unfold ordM at *
    rw [List.countP_cons]
    by_cases ha : a.s < p.s
    · rw [if_pos (decide_eq_true ha), List.take_succ_cons, List.drop_succ_cons]
      refine ⟨fun x hx => ?_, i2⟩
      rcases List.mem_cons.mp hx with rfl | hx
      · exact ha
      · exact i1 x hx
    · have hz : r.countP (fun q => decide (q.s < p.s)) = 0 := by
        rw [List.countP_eq_zero]
        intro x hx z
        have := h.1 x hx
        have := of_decide_eq_true z
        grind
      rw [if_neg (by simpa using ha), hz]
      refine ⟨fun x hx => (by simp at hx), fun x hx => ?_⟩
      rcases List.mem_cons.mp hx with rfl | hx
      · exact ha
      · have := h.1 x hx
        grind
theorem ordI_perm {acc : List Pc} {p : Pc} : (ordI acc p).Perm (acc ++ [p]) := by
  unfold ordI
  have h1 : (acc.take (ordM acc p) ++ p :: acc.drop (ordM acc p)).Perm (p :: (acc.take (ordM acc p) ++ acc.drop (ordM acc p))) := List.perm_middle
  rw [List.take_append_drop] at h1
  exact h1.trans (List.perm_append_comm (l₁ := [p]))
theorem ordI_sto {acc : List Pc} {p : Pc} (h : Sto acc) (hd : ∀ x ∈ acc, x.s ≠ p.s) : Sto (ordI acc p) := by
  obtain ⟨h1, h2⟩ := ord_split (p := p) h
  unfold ordI Sto
  rw [List.pairwise_append, List.pairwise_cons]
  refine ⟨h.sublist (List.take_sublist _ _), ⟨fun x hx => ?_, h.sublist (List.drop_sublist _ _)⟩, fun x hx y hy => ?_⟩
  · have := h2 x hx
    have := hd x ((List.drop_sublist _ _).mem hx)
    grind
  · rcases List.mem_cons.mp hy with rfl | hy
    · exact h1 x hx
    · have := h1 x hx
      have := h2 y hy
      grind
theorem ordF {l : List Pc} : ∀ {acc : List Pc}, Sto acc → (acc ++ l).Pairwise (fun x y => x.s ≠ y.s) → Sto (l.foldl ordI acc) ∧ (l.foldl ordI acc).Perm (acc ++ l) := by
  induction l with
  | nil => intro acc h _; exact ⟨h, by rw [List.append_nil]; exact .refl _⟩
  | cons p l ih =>
    intro acc h hp
    rw [List.foldl_cons]
    have hpm := ordI_perm (acc := acc) (p := p)
    have hap : acc ++ p :: l = (acc ++ [p]) ++ l := by rw [List.append_assoc]; rfl
    have hpd : (ordI acc p ++ l).Pairwise (fun x y => x.s ≠ y.s) := by
      refine ((hpm.append_right l).pairwise_iff (fun {x y} z => z.symm)).mpr ?_
      rw [← hap]; exact hp
    obtain ⟨i1, i2⟩ := ih (ordI_sto h fun x hx => by
      rw [List.pairwise_append] at hp
      exact hp.2.2 x hx p (by simp)) hpd
    exact ⟨i1, i2.trans (by rw [hap]; exact hpm.append_right l)⟩
theorem ordT_ok {l : List Pc} (h : l.Pairwise fun x y => x.s ≠ y.s) : Sto (ordT l) ∧ (ordT l).Perm l := ordF (acc := []) .nil h
/-- the program's way: from the end -/
theorem ord_at {acc : List Pc} {p : Pc} {n : Nat} (h : Sto acc) (hn : n ≤ acc.length) (h1 : ∀ x ∈ acc.drop n, p.s < x.s) (h2 : n = 0 ∨ ∃ x, acc[n - 1]? = some x ∧ x.s < p.s) : n = ordM acc p := by
  unfold ordM
  have e := List.take_append_drop n acc
  have : acc.countP (fun q => decide (q.s < p.s)) = (acc.take n).countP (fun q => decide (q.s < p.s)) + (acc.drop n).countP (fun q => decide (q.s < p.s)) := by
    rw [← List.countP_append, e]
  rw [this]
  have z1 : (acc.drop n).countP (fun q => decide (q.s < p.s)) = 0 := by
    rw [List.countP_eq_zero]
    intro x hx z
    have := h1 x hx
    have := of_decide_eq_true z
    grind
  have z2 : (acc.take n).countP (fun q => decide (q.s < p.s)) = n := by
    have hl : (acc.take n).length = n := by rw [List.length_take]; omega
    conv => rhs; rw [← hl]
    rw [List.countP_eq_length]
    intro x hx
    rcases h2 with h2 | ⟨y, hy, h2⟩
    · subst h2; simp at hx
    · obtain ⟨i, hi, e⟩ := List.mem_iff_getElem.mp hx
      have hi' : i < n := by omega
      rw [List.getElem_take] at e
      refine decide_eq_true ?_
      by_cases hin : i = n - 1
      · subst hin
        rw [List.getElem?_eq_getElem (by omega)] at hy
        cases hy
        rw [← e]; exact h2
      · have hlt : i < n - 1 := by omega
        have := List.pairwise_iff_getElem.mp h i (n - 1) (by omega) (by omega) hlt
        rw [List.getElem?_eq_getElem (by omega)] at hy
        cases hy
        rw [e] at this
        grind
  omega
end Pm

namespace Pm
open PySem PySem.Spec PyProof.Rows L2
/-! ### sorted of a list of pairs of ints -/
abbrev ltIv (p q : Int × Int) : Prop := p.1 < q.1 ∨ (p.1 = q.1 ∧ p.2 < q.2)
abbrev leIv (p q : Int × Int) : Prop := ¬ ltIv q p
def insP (x : Int × Int) : List (Int × Int) → List (Int × Int)
  | [] => [x]
  | y :: l => if ltIv y x then y :: insP x l else x :: y :: l
def srtP : List (Int × Int) → List (Int × Int)
  | [] => []
  | x :: l => insP x (srtP l)
theorem insP_perm (x : Int × Int) : ∀ l, (insP x l).Perm (x :: l)
  | [] => .refl _
  | y :: l => by
    unfold insP
    split
    · exact ((insP_perm x l).cons y).trans (.swap _ _ _)
    · exact .refl _
theorem srtP_perm : ∀ l, (srtP l).Perm l
  | [] => .refl _
  | x :: l => (insP_perm x (srtP l)).trans ((srtP_perm l).cons x)
theorem insP_sorted (x : Int × Int) : ∀ {l : List (Int × Int)}, l.Pairwise leIv → (insP x l).Pairwise leIv
  | [], _ => by unfold insP; simp
  | y :: l, h => by
    unfold insP
    rw [List.pairwise_cons] at h
    split
    · rename_i hxy
      refine List.pairwise_cons.mpr ⟨fun z hz => ?_, insP_sorted x h.2⟩
      rcases List.mem_cons.mp ((insP_perm x l).mem_iff.mp hz) with rfl | hz
      · intro q; unfold ltIv at *; omega
      · exact h.1 z hz
    · rename_i hxy
      refine List.pairwise_cons.mpr ⟨fun z hz => ?_, List.pairwise_cons.mpr h⟩
      rcases List.mem_cons.mp hz with rfl | hz
      · exact hxy
      · have := h.1 z hz
        intro q; unfold leIv ltIv at *; omega
theorem srtP_sorted : ∀ l, (srtP l).Pairwise leIv
  | [] => .nil
  | x :: l => insP_sorted x (srtP_sorted l)
theorem leIv_anti {x y : Int × Int} (h1 : leIv x y) (h2 : leIv y x) : x = y := by
  unfold leIv ltIv at *
  exact Prod.ext (by omega) (by omega)
theorem sortedP_eq : ∀ {l m : List (Int × Int)}, l.Perm m → l.Pairwise leIv → m.Pairwise leIv → l = m
  | [], m, p, _, _ => p.nil_eq
  | x :: l, [], p, _, _ => absurd p.length_eq (by simp)
  | x :: l, y :: m, p, h1, h2 => by
    rw [List.pairwise_cons] at h1 h2
    have e : x = y := by
      have a1 := p.mem_iff.mp (show x ∈ x :: l from List.mem_cons_self)
      have a2 := p.mem_iff.mpr (show y ∈ y :: m from List.mem_cons_self)
      rcases List.mem_cons.mp a1 with q | q
      · exact q
      · rcases List.mem_cons.mp a2 with q2 | q2
        · exact q2.symm
        · exact leIv_anti (h1.1 y q2) (h2.1 x q)
    subst e
    rw [sortedP_eq (p.cons_inv) h1.2 h2.2]
theorem srtP_id {l : List (Int × Int)} (h : l.Pairwise leIv) : srtP l = l := sortedP_eq (srtP_perm l) (srtP_sorted l) h
theorem srtP_of {l ns : List (Int × Int)} (p : l.Perm ns) (h : l.Pairwise leIv) : l = srtP ns := sortedP_eq (p.trans (srtP_perm ns).symm) h (srtP_sorted ns)
/-- the values are these pairs -/
def Prs (K : PySem.W.Frag) (H : Hp) : List V → List (Int × Int) → Prop
  | [], ps => ps = []
  | x :: xs, ps => ∃ p r, ps = p :: r ∧ (∃ t, x = V.ref t ∧ SqT K H t [.int p.1, .int p.2]) ∧ Prs K H xs r
theorem Prs.mem {K : PySem.W.Frag} {H : Hp} : ∀ {xs : List V} {ps : List (Int × Int)}, Prs K H xs ps → ∀ x ∈ xs, ∃ p : Int × Int, ∃ t, x = V.ref t ∧ SqT K H t [.int p.1, .int p.2]
  | [], _, _, x, hx => by cases hx
  | y :: xs, ps, h, x, hx => by
    obtain ⟨p, r, _, h1, h2⟩ := h
    rcases List.mem_cons.mp hx with rfl | hx
    · exact ⟨p, h1⟩
    · exact Prs.mem h2 x hx
theorem Prs.of {K : PySem.W.Frag} {H : Hp} {k : V → Int × Int} : ∀ {xs : List V}, (∀ x ∈ xs, ∃ t, x = V.ref t ∧ SqT K H t [.int (k x).1, .int (k x).2]) → Prs K H xs (xs.map k)
  | [], _ => rfl
  | x :: xs, h => ⟨k x, xs.map k, rfl, h x List.mem_cons_self, Prs.of fun y hy => h y (List.mem_cons_of_mem _ hy)⟩
theorem Prs.eqk {K : PySem.W.Frag} {H : Hp} {k : V → Int × Int} (inj : ∀ t xs ys, SqT K H t xs → SqT K H t ys → xs = ys) : ∀ {xs : List V} {ps : List (Int × Int)}, Prs K H xs ps → (∀ x ∈ xs, ∃ t, x = V.ref t ∧ SqT K H t [.int (k x).1, .int (k x).2]) → ps = xs.map k
  | [], ps, h, _ => h
  | x :: xs, ps, h, hk => by
    obtain ⟨p, r, rfl, ⟨t, e, h1⟩, h2⟩ := h
    obtain ⟨t', e', h1'⟩ := hk x List.mem_cons_self
    have et : t = t' := V.ref.inj (e.symm.trans e')
    subst et
    have q := inj _ _ _ h1 h1'
    have q1 : p = k x := by
      injection q with q1 q2
      injection q2 with q2 q3
      injection q1 with q1
      injection q2 with q2
      exact Prod.ext q1 q2
    rw [List.map_cons, q1, Prs.eqk inj h2 fun y hy => hk y (List.mem_cons_of_mem _ hy)]
/-- what iterates as a list does -/
def SqA (h : Heap) (l : Addr) (vs : List Value) : Prop := ∃ T, (T = "list" ∨ T = "tuple") ∧ ∃ o, h.get? l = some o ∧ o.cls = .type T ∧ ∃ n, o.data = .seq vs.toArray n
section
variable {pg : Program} {wd : World} {ar : Around} {Ex : Value → Shared → Prop} {sh : Shared}
/-- an empty list laid on a heap -/
abbrev hp1 (g : Heap) : Heap := g.push (seqObj "list" #[] 0)
/-- and filled -/
abbrev hp2 (g : Heap) (el : List Value) : Heap := (hp1 g).update g.objs.size (Obj.mapSeq (· ++ el.toArray))
theorem hp2_size (g : Heap) (el : List Value) : (hp2 g el).objs.size = g.objs.size + 1 := (Heap.size_update _ _ _).trans (size_push' _ _)
theorem hp2_old {g : Heap} {el : List Value} {b : Addr} {o : Obj} (q : g.get? b = some o) : (hp2 g el).get? b = some o :=
  (Heap.get?_update_ne _ _ _ _ (Nat.ne_of_lt (Heap.lt_size q))).trans (Heap.get?_push_of_some _ q)
theorem seq_word {T : String} (hT : T = "list" ∨ T = "tuple") (x : Bool) : (x || Value.type T == .type "list" || Value.type T == .type "tuple") = true := by
  rcases hT with e | e <;> subst e
  · rw [show (Value.type "list" == Value.type "list") = true from rfl, Bool.or_true, Bool.true_or]
  · rw [show (Value.type "tuple" == Value.type "tuple") = true from rfl, Bool.or_true]
/-- its items, one by one, into a new list -/
theorem fill_any {src : Addr} {el : List Value} {Pq : Fin → Shared → Prop} (hs : SqA sh.heap src el) (hz : el.length ≤ sizeLine) (hq : Pq (.done (.ret (.ref sh.heap.objs.size))) { sh with heap := hp2 sh.heap el }) :
    wpAny (model pg wd) ar (Builtin.List.listExtendWith (.ref sh.heap.objs.size) (.ref src) (.ref sh.heap.objs.size)) Pq Ex { sh with heap := hp1 sh.heap } := by
  obtain ⟨T, hT, o, ho, hc, n, hd⟩ := hs
  have old : (hp1 sh.heap).get? src = some o := Heap.get?_push_of_some _ ho
  have new : (hp1 sh.heap).get? sh.heap.objs.size = some (seqObj "list" #[] 0) := Heap.get?_push_size _ rfl
  unfold Builtin.List.listExtendWith
  refine wpAny_bind (wpAny_typeOf (T := T) ⟨o, old, hc⟩ (Eq.mpr (congrArg (fun c => wpAny _ _ (if c = true then _ else _) _ _ _) (seq_word hT _)) ?_))
  exact if_pos rfl ▸ wpAny_bind (listItems_at old hd (wpAny_bind (listItems_at new rfl (by
    rw [if_neg (show ¬ _ from by simp)]
    exact wpAny_bind (listUpdate_at new rfl (wpAny_pure hq) (Nat.zero_le _) (by
      show (#[] ++ el.toArray).size ≤ sizeLine + 1
      rw [Array.size_append]
      simp
      omega))))))
/-- all of it in one list -/
theorem whole_any {src : Addr} {el : List Value} {Pq : List Value → Shared → Prop} (hs : SqA sh.heap src el) (hz : el.length ≤ sizeLine) (hq : Pq el { sh with heap := hp2 sh.heap el }) : wpAny (model pg wd) ar (collect (.ref src)) Pq Ex sh := by
  have read : (hp2 sh.heap el).get? sh.heap.objs.size = _ := get?_update_seq (c := "list") (xs := #[]) (n := 0) (Heap.get?_push_size _ rfl) _
  unfold collect
  refine wpAny_bind (wpAny_runValue (codeAny_builtin entry_proto_collect' (wpAny_bind (wpAny_newList (wpAny_pure ⟨Code.quiet_builtin _ (by decide +kernel), codeAny_builtin entry_list_iadd' ?_⟩)))))
  refine fill_any hs hz ?_
  show wpAny (model pg wd) ar (load sh.heap.objs.size >>= fun _ => _) Pq Ex _
  refine wpAny_bind (wpAny_load read ?_)
  have ea : ((#[] : Array Value) ++ el.toArray).toList = el := by simp
  exact wpAny_pure (by rw [ea]; exact hq)
/-- sorted of it, pairs of ints -/
theorem order_any {src : Addr} {el : List Value} {kf : Value → Int × Int} {Pq : Value → Shared → Prop} (hs : SqA sh.heap src el) (hz : el.length ≤ sizeLine) (hp : ∀ v ∈ el, Srt.IsPair sh.heap v (kf v).1 (kf v).2)
    (hq : ∀ out : List Value, SrtO.Srtd (fun v u => SrtO.lexB (kf v) (kf u)) out → SrtO.Stb (fun v u => SrtO.lexB (kf v) (kf u)) out el → Pq (.ref (sh.heap.objs.size + 1)) { sh with heap := sortedAll sh.heap el out.toArray }) :
    wpAny (model pg wd) ar (call (.builtin "sorted") [.ref src]) Pq Ex sh := by
  refine Calls.call_function_entry kind_sorted plain_sorted entry_sorted (args_sorted1 (.ref src)) ?_
  unfold Builtin.«sorted»
  have at2 : ((hp2 sh.heap el).push (seqObj "list" el.toArray 0)).get? (hp2 sh.heap el).objs.size = some (seqObj "list" el.toArray 0) := Heap.get?_push_size _ rfl
  have kept : ∀ b o, sh.heap.get? b = some o → ((hp2 sh.heap el).push (seqObj "list" el.toArray 0)).get? b = some o := fun b o q => Heap.get?_push_of_some _ (hp2_old q)
  have sz := hp2_size sh.heap el
  refine wpAny_bind (m := checkCount "sorted" 1 1 _) (wpAny_pure (wpAny_bind (whole_any hs hz (wpAny_bind (wpAny_newList (wpAny_bind (wpAny_holding (wpAny_call_entry slot_list_sort ⟨_, at2, rfl⟩ entry_list_sort (SrtO.list_sort_ord (SrtO.swo_lex kf) at2 hz (fun h2 => ?_) fun out o1 o2 => ⟨_, rfl, ?_⟩) (args_list_sort _)))) hz)))))
  · exact SrtO.pairs_sortableO (s := { sh with heap := (hp2 sh.heap el).push (seqObj "list" el.toArray 0) }) (by omega) (fun v hm => (hp v hm).keeps fun b o q _ => kept b o q) fun o q cc => by
      have q2 := Option.some.inj (q.symm.trans at2)
      subst q2
      exact absurd (Value.type.inj cc) (by decide)
  · refine wpAny_pure ⟨_, rfl, ?_⟩
    have r := hq out o1 o2
    unfold sortedAll at r
    rw [← sz] at r
    exact r
end
def rSortedQ (K : PySem.W.Frag) : List V → Hp → VK → Prop := fun vs H Q => ∃ (a : Addr) (xs : List V) (ps : List (Int × Int)), vs = [V.ref a] ∧ (SqL K H a xs ∨ SqT K H a xs) ∧ Prs K H xs ps ∧
  ∀ ys qs p, Prs K H ys qs → qs.Perm ps → qs.Pairwise leIv → H p = none → Q (.ref p) (upd H p (.lst ys))
open Classical in
theorem cr_sortedQ {X : Cx} : CallR X (.builtin "sorted") (rSortedQ X.K) := by
  intro pn s σ H args vals Qk I r h
  obtain ⟨a, us0, prs, rfl, hsq, hprs, q⟩ := h
  have ⟨ws, vv, hl, hz⟩ : ∃ ws : List Value, Vals us0 ws ∧ SqA s.heap a ws ∧ us0.length ≤ sizeLine := by
    rcases hsq with hsq | hsq
    · obtain ⟨ws, vv, ⟨o, n, o1, o2, _, o3⟩, hz⟩ := I.list hsq
      exact ⟨ws, vv, ⟨"list", .inl rfl, o, o1, o2, n, o3⟩, hz⟩
    · obtain ⟨ws, vv, ⟨o, o1, o2, n, o3⟩, hz⟩ := I.tuple hsq
      exact ⟨ws, vv, ⟨"tuple", .inr rfl, o, o1, o2, n, o3⟩, hz⟩
  obtain ⟨u, rfl, ru⟩ := vals1 r
  obtain rfl : u = Value.ref a := ru
  have hm := Prs.mem hprs
  have ⟨kf, hkf⟩ : ∃ kf : V → Int × Int, ∀ x ∈ us0, ∃ t, x = V.ref t ∧ SqT X.K H t [.int (kf x).1, .int (kf x).2] := by
    refine ⟨fun x => if h : ∃ p : Int × Int, ∃ t, x = V.ref t ∧ SqT X.K H t [.int p.1, .int p.2] then h.choose else (0, 0), fun x hxm => ?_⟩
    have h := hm x hxm
    simp only [dif_pos h]
    exact h.choose_spec
  have eps := Prs.eqk (fun t us0 ys o1 o2 => I.tuple_inj o1 o2) hprs hkf
  obtain ⟨f1, f2⟩ := refs_back vv fun x m => by
    obtain ⟨t, e, _⟩ := hkf x m
    exact ⟨t, e⟩
  refine order_any (kf := fun u => kf (backV u)) hl (by rw [← vv.length]; exact hz) (fun v hv => ?_) fun out o1 o2 => ?_
  · obtain ⟨t, rfl⟩ := f2 v hv
    have hm : V.ref t ∈ us0 := by rw [f1]; exact List.mem_map.mpr ⟨_, hv, rfl⟩
    obtain ⟨t', e, ht⟩ := hkf _ hm
    cases e
    obtain ⟨ws2, rr2, ⟨o, ho, hc, n, hd⟩, _⟩ := I.tuple ht
    obtain ⟨w1, w2, rfl, ra, rb⟩ := vals2 rr2
    obtain ⟨tk1, rfl⟩ := ra
    obtain ⟨tk2, rfl⟩ := rb
    exact ⟨t, o, tk1, tk2, n, rfl, ho, hc, hd⟩
  · have o3 : ∀ u ∈ out, ∃ a, u = Value.ref a := fun u hu => f2 u (o2.perm.mem_iff.mp hu)
    have hstb : SrtO.Stb (ltP kf) (out.map backV) us0 := by
      rw [f1]
      exact SrtO.Stb.map (ltP_swo kf) backV o2
    have hsr : SrtO.Srtd (ltP kf) (out.map backV) := SrtO.srtd_map o1
    obtain ⟨n, hn⟩ := PyProof.Rows.sortedAll_at s.heap ws out.toArray
    refine ⟨.ref _, upd H (s.heap.objs.size + 1) (.lst (out.map backV)), I.laid (t' := s.toks) (fun _ _ => PyProof.Rows.sortedAll_old) (Nat.le_succ _) ⟨?_, out, n, vals_back o3, hn⟩, rfl, q _ ((out.map backV).map kf) _ (Prs.of fun x hprs => hkf x (hstb.perm.mem_iff.mp hprs)) ?_ ?_ (I.hok.fresh (Nat.le_succ _))⟩
    · rw [hstb.len]
      exact hz
    · rw [eps]
      exact hstb.perm.map kf
    · rw [List.pairwise_map]
      refine hsr.imp ?_
      intro x y hxy
      exact SrtO.lexB_no.mp hxy
section
variable {c : Cc} {O O' : Ow} {H H' : Hp} {ρ ρ' : En} {τ τ' : List (V × R)} {σ σ' : St} {v : V} {X : Cx}
def ivs? : List D → Option (List (Int × Int))
  | [] => some []
  | .tup [.int a, .int b] :: l => (ivs? l).map ((a, b) :: ·)
  | _ :: _ => none
theorem ivs_of {K : PySem.W.Frag} {A : Av} : ∀ {l : List D} {vs : List V} {ps : List (Int × Int)}, Rps K H A l vs → ivs? l = some ps → Prs K H vs ps
  | [], vs, ps, h, e => by unfold Rps at h; subst h; cases e; rfl
  | d :: l, vs, ps, h, e => by
    unfold Rps at h
    obtain ⟨v, r, rfl, h1, h2⟩ := h
    unfold ivs? at e
    split at e
    · rename_i heq; cases heq
    · rename_i a b l' heq
      injection heq with e1 e2
      subst e1 e2
      unfold Rp at h1
      obtain ⟨t, vs, rfl, q, h3⟩ := h1
      unfold Rps at h3
      obtain ⟨x, r1, rfl, hx, h4⟩ := h3
      unfold Rps at h4
      obtain ⟨y, r2, rfl, hy, h5⟩ := h4
      unfold Rps at h5
      subst h5
      rw [hx.int, hy.int] at q
      cases e3 : ivs? l with
      | none => rw [e3] at e; cases e
      | some ms =>
        rw [e3] at e; cases e
        exact ⟨(a, b), ms, rfl, ⟨t, rfl, q⟩, ivs_of h2 e3⟩
    · cases e
theorem Prs.rps {K : PySem.W.Frag} {A : Av} : ∀ {vs : List V} {ps : List (Int × Int)}, Prs K H vs ps → Rps K H A (ps.map ivD) vs
  | [], ps, h => by obtain rfl : ps = [] := h; exact Rps.nil
  | v :: vs, ps, h => by
    obtain ⟨p, r, rfl, ⟨t, rfl, q⟩, h2⟩ := h
    refine Rps.cons ?_ h2.rps
    show Rp K H A (.tup [.int p.1, .int p.2]) (.ref t)
    unfold Rp
    exact ⟨t, _, rfl, q, Rps.cons (Rp.ofInt _) (Rps.cons (Rp.ofInt _) Rps.nil)⟩
def cSortQ : CbT := fun rs ρ R => match rs with
  | [r] => wD (vw ρ r) fun d => match d with
    | .lst l => wI (ivs? l) fun ns => R (.va (Wl ((srtP ns).map ivD))) ρ
    | .tup l => wI (ivs? l) fun ns => R (.va (Wl ((srtP ns).map ivD))) ρ
    | _ => False
  | _ => False
where wI (o : Option (List (Int × Int))) (k : List (Int × Int) → Prop) : Prop := match o with
  | some d => k d
  | none => False
theorem sortQ_ok (hK : X.K = c.K) : CbOk c (rSortedQ X.K) cSortQ := by
  intro σ ρ τ vs rs H Q R0 S hl hT hQ
  rw [hK]
  unfold cSortQ at hT
  split at hT
  · rename_i r'
    obtain ⟨d, e1, h1⟩ := hT.of
    match vs, hl with
    | [v], _ =>
      obtain ⟨O, S⟩ := S
      have hv := S.vw e1
      split at h1
      · obtain ⟨p, vs, rfl, q, r⟩ := hv.lst
        unfold cSortQ.wI at h1
        split at h1
        · rename_i ns e2
          refine ⟨p, vs, ns, rfl, .inl (SqL.of q), ivs_of r e2, fun ys qs p' hy hp hs hn => ?_⟩
          have e4 := srtP_of hp hs
          subst e4
          exact hQ _ _ _ _ h1 (S.pop.newLst hn hy.rps)
        · exact h1.elim
      · obtain ⟨p, vs, rfl, q, r⟩ := hv.tup
        unfold cSortQ.wI at h1
        split at h1
        · rename_i ns e2
          refine ⟨p, vs, ns, rfl, .inr q, ivs_of r e2, fun ys qs p' hy hp hs hn => ?_⟩
          have e4 := srtP_of hp hs
          subst e4
          exact hQ _ _ _ _ h1 (S.pop.newLst hn hy.rps)
        · exact h1.elim
      · exact h1.elim
  · exact hT.elim
def srtQK (R : R → En → Prop) (ρ : En) : D → Prop
  | .lst l => oD (ivs? l) fun ns => R (.va (Wl ((srtP ns).map ivD))) ρ
  | .tup l => oD (ivs? l) fun ns => R (.va (Wl ((srtP ns).map ivD))) ρ
  | _ => False
theorem e_cSortQ {r : R} {K : R → En → Prop} : cSortQ [r] ρ K = oD (vw ρ r) (srtQK K ρ) := by
  show wD (vw ρ r) _ = _
  cases vw ρ r with
  | none => rfl
  | some d =>
    show (match d with | .lst l => _ | .tup l => _ | _ => False) = srtQK K ρ d
    cases d with
    | lst l =>
      show cSortQ.wI (ivs? l) _ = oD (ivs? l) _
      cases ivs? l <;> rfl
    | tup l =>
      show cSortQ.wI (ivs? l) _ = oD (ivs? l) _
      cases ivs? l <;> rfl
    | _ => rfl
theorem srtQ_lst {K : R → En → Prop} {l : List D} : srtQK K ρ (.lst l) = oD (ivs? l) fun ns => K (.va (Wl ((srtP ns).map ivD))) ρ := rfl
theorem srtQ_tup {K : R → En → Prop} {l : List D} : srtQK K ρ (.tup l) = oD (ivs? l) fun ns => K (.va (Wl ((srtP ns).map ivD))) ρ := rfl
theorem ivs_map : ∀ {ps : List (Int × Int)}, ivs? (ps.map ivD) = some ps
  | [] => rfl
  | p :: r => by
    show (ivs? (r.map ivD)).map ((p.1, p.2) :: ·) = _
    rw [ivs_map]; rfl
end
end Pm

namespace Pm
open PySem PySem.Spec PyProof.Rows L2
/-! ### sorted of a list of strs -/
def ltS (x y : Str) : Bool := ltCps x.cps.toList y.cps.toList
def leS (x y : Str) : Prop := ltS y x = false
theorem ltC_irr : ∀ a : List Nat, ltCps a a = false
  | [] => rfl
  | x :: r => by unfold ltCps; rw [ltC_irr r]; simp
theorem leC_anti : ∀ {a b : List Nat}, ltCps a b = false → ltCps b a = false → a = b
  | [], [], _, _ => rfl
  | [], _ :: _, h, _ => by cases h
  | _ :: _, [], _, h => by cases h
  | x :: r, y :: t, h1, h2 => by
    unfold ltCps at h1 h2
    rw [Bool.or_eq_false_iff, Bool.and_eq_false_iff] at h1 h2
    have a1 : ¬ x < y := fun z => by have := h1.1; simp [z] at this
    have a2 : ¬ y < x := fun z => by have := h2.1; simp [z] at this
    have e : x = y := by omega
    subst e
    have b1 := h1.2.resolve_left (by simp)
    have b2 := h2.2.resolve_left (by simp)
    rw [leC_anti b1 b2]
theorem leC_trans : ∀ {a b c : List Nat}, ltCps b a = false → ltCps c b = false → ltCps c a = false
  | [], b, c, _, _ => by
    cases c <;> rfl
  | x :: r, b, c, h1, h2 => by
    cases b with
    | nil => cases h1
    | cons y t =>
      cases c with
      | nil => cases h2
      | cons z u =>
        unfold ltCps at h1 h2 ⊢
        rw [Bool.or_eq_false_iff, Bool.and_eq_false_iff] at h1 h2 ⊢
        have a1 : ¬ y < x := fun q => by have := h1.1; simp [q] at this
        have a2 : ¬ z < y := fun q => by have := h2.1; simp [q] at this
        refine ⟨by simp; omega, ?_⟩
        by_cases e : z = x
        · subst e
          have e2 : y = z := by omega
          subst e2
          exact .inr (leC_trans (h1.2.resolve_left (by simp)) (h2.2.resolve_left (by simp)))
        · exact .inl (by simpa using e)
theorem leS_anti {x y : Str} (h1 : leS x y) (h2 : leS y x) : x = y := by
  have := leC_anti h2 h1
  cases x; cases y
  simpa using this
theorem leS_trans {x y z : Str} (h1 : leS x y) (h2 : leS y z) : leS x z := leC_trans h1 h2
theorem rising_pw : ∀ {l : List Str} {p : Str}, risingS p l = true → (p :: l).Pairwise leS
  | [], p, _ => by simp
  | x :: r, p, h => by
    unfold risingS at h
    rw [Bool.and_eq_true, Bool.not_eq_true'] at h
    have i := rising_pw h.2
    rw [List.pairwise_cons]
    refine ⟨fun y hy => ?_, i⟩
    rcases List.mem_cons.mp hy with rfl | hy
    · exact h.1
    · exact leS_trans h.1 ((List.pairwise_cons.mp i).1 y hy)
theorem sortedS_pw {l : List Str} (h : sortedS l = true) : l.Pairwise leS := by
  cases l with
  | nil => exact .nil
  | cons x r => exact rising_pw h
def insT (x : Str) : List Str → List Str
  | [] => [x]
  | y :: l => if ltS y x = true then y :: insT x l else x :: y :: l
def srtT : List Str → List Str
  | [] => []
  | x :: l => insT x (srtT l)
theorem insT_perm (x : Str) : ∀ l, (insT x l).Perm (x :: l)
  | [] => .refl _
  | y :: l => by
    unfold insT
    split
    · exact ((insT_perm x l).cons y).trans (.swap _ _ _)
    · exact .refl _
theorem srtT_perm : ∀ l, (srtT l).Perm l
  | [] => .refl _
  | x :: l => (insT_perm x (srtT l)).trans ((srtT_perm l).cons x)
theorem ltS_asym {x y : Str} (h : ltS x y = true) : leS x y := by
  unfold leS
  cases q : ltS y x with
  | false => rfl
  | true =>
    have e : ∀ a b : List Nat, ltCps a b = true → ltCps b a = true → False := by
      intro a
      induction a with
      | nil => intro b h1 h2; cases b <;> cases h2
      | cons x r ih =>
        intro b h1 h2
        cases b with
        | nil => cases h1
        | cons y t =>
          unfold ltCps at h1 h2
          simp only [Bool.or_eq_true, decide_eq_true_eq, Bool.and_eq_true, beq_iff_eq] at h1 h2
          rcases h1 with h1 | h1 <;> rcases h2 with h2 | h2
          · omega
          · omega
          · omega
          · exact ih t h1.2 h2.2
    exact (e _ _ h q).elim
theorem insT_sorted (x : Str) : ∀ {l : List Str}, l.Pairwise leS → (insT x l).Pairwise leS
  | [], _ => by unfold insT; simp
  | y :: l, h => by
    unfold insT
    rw [List.pairwise_cons] at h
    split
    · rename_i hxy
      refine List.pairwise_cons.mpr ⟨fun z hz => ?_, insT_sorted x h.2⟩
      rcases List.mem_cons.mp ((insT_perm x l).mem_iff.mp hz) with rfl | hz
      · exact ltS_asym hxy
      · exact h.1 z hz
    · rename_i hxy
      have hxy : leS x y := by unfold leS; simpa using hxy
      refine List.pairwise_cons.mpr ⟨fun z hz => ?_, List.pairwise_cons.mpr h⟩
      rcases List.mem_cons.mp hz with rfl | hz
      · exact hxy
      · exact leS_trans hxy (h.1 z hz)
theorem srtT_sorted : ∀ l, (srtT l).Pairwise leS
  | [] => .nil
  | x :: l => insT_sorted x (srtT_sorted l)
theorem sortedT_eq : ∀ {l m : List Str}, l.Perm m → l.Pairwise leS → m.Pairwise leS → l = m
  | [], m, p, _, _ => p.nil_eq
  | x :: l, [], p, _, _ => absurd p.length_eq (by simp)
  | x :: l, y :: m, p, h1, h2 => by
    rw [List.pairwise_cons] at h1 h2
    have e : x = y := by
      have a1 := p.mem_iff.mp (show x ∈ x :: l from List.mem_cons_self)
      have a2 := p.mem_iff.mpr (show y ∈ y :: m from List.mem_cons_self)
      rcases List.mem_cons.mp a1 with q | q
      · exact q
      · rcases List.mem_cons.mp a2 with q2 | q2
        · exact q2.symm
        · exact leS_anti (h1.1 y q2) (h2.1 x q)
    subst e
    rw [sortedT_eq (p.cons_inv) h1.2 h2.2]
theorem srtT_of {l ns : List Str} (p : l.Perm ns) (h : l.Pairwise leS) : l = srtT ns := sortedT_eq (p.trans (srtT_perm ns).symm) h (srtT_sorted ns)
theorem srtT_perm_eq {l m : List Str} (p : l.Perm m) : srtT l = srtT m := srtT_of ((srtT_perm l).trans p) (srtT_sorted l)
def rSortedA (K : PySem.W.Frag) : List V → Hp → VK → Prop := fun vs H Q => rSortedS K vs H Q ∨ rSortedQ K vs H Q
theorem cr_sortedA {X : Cx} : CallR X (.builtin "sorted") (rSortedA X.K) := by
  intro pins s σ H vs us Q I r h
  rcases h with h | h
  · exact cr_sortedS pins s σ H vs us Q I r h
  · exact cr_sortedQ pins s σ H vs us Q I r h
section
variable {c : Cc} {O O' : Ow} {H H' : Hp} {ρ ρ' : En} {τ τ' : List (V × R)} {σ σ' : St} {v : V} {X : Cx}
def sts? : List D → Option (List Str)
  | [] => some []
  | .str a :: l => (sts? l).map (a :: ·)
  | _ :: _ => none
theorem sts_of {K : PySem.W.Frag} {A : Av} : ∀ {l : List D} {vs : List V} {ps : List Str}, Rps K H A l vs → sts? l = some ps → vs = ps.map V.str
  | [], vs, ps, h, e => by unfold Rps at h; subst h; cases e; rfl
  | d :: l, vs, ps, h, e => by
    unfold Rps at h
    obtain ⟨v, r, rfl, h1, h2⟩ := h
    cases d with
    | str a =>
      unfold sts? at e
      cases e3 : sts? l with
      | none => rw [e3] at e; cases e
      | some ms =>
        rw [e3] at e; cases e
        unfold Rp at h1
        rw [h1, sts_of h2 e3]; rfl
    | _ => unfold sts? at e; cases e
theorem rps_strD {K : PySem.W.Frag} {A : Av} : ∀ ns : List Str, Rps K H A (ns.map .str) (ns.map V.str)
  | [] => Rps.nil
  | n :: ns => Rps.cons (Rp.ofStr n) (rps_strD ns)
def srtAK (R : R → En → Prop) (ρ : En) : D → Prop
  | .lst l => match sts? l with
    | some ns => ns.length < 64 ∧ R (.va (Wl ((srtT ns).map .str))) ρ
    | none => match ivs? l with
      | some ps => R (.va (Wl ((srtP ps).map ivD))) ρ
      | none => False
  | _ => False
def cSortA : CbT := fun rs ρ R => match rs with
  | [r] => wD (vw ρ r) (srtAK R ρ)
  | _ => False
theorem sortA_ok (hK : X.K = c.K) : CbOk c (rSortedA X.K) cSortA := by
  intro σ ρ τ vs rs H Q R0 S hl hT hQ
  rw [hK]
  unfold cSortA at hT
  split at hT
  · rename_i r'
    obtain ⟨d, e1, h1⟩ := hT.of
    match vs, hl with
    | [v], _ =>
      obtain ⟨O, S⟩ := S
      have hv := S.vw e1
      unfold srtAK at h1
      split at h1
      · obtain ⟨p, vs, rfl, q, r⟩ := hv.lst
        split at h1
        · rename_i ns e2
          have e3 := sts_of r e2
          subst e3
          refine .inl ⟨p, ns, rfl, SqL.of q, h1.1, fun ys p' hp hs hn => ?_⟩
          have e4 := srtT_of hp (sortedS_pw hs)
          subst e4
          exact hQ _ _ _ _ h1.2 (S.pop.newLst hn (rps_strD _))
        · split at h1
          · rename_i ns e2
            refine .inr ⟨p, vs, ns, rfl, .inl (SqL.of q), ivs_of r e2, fun ys qs p' hy hp hs hn => ?_⟩
            have e4 := srtP_of hp hs
            subst e4
            exact hQ _ _ _ _ h1 (S.pop.newLst hn hy.rps)
          · exact h1.elim
      · exact h1.elim
  · exact hT.elim
theorem e_cSortA {r : R} {K : R → En → Prop} : cSortA [r] ρ K = oD (vw ρ r) (srtAK K ρ) := by
  show wD (vw ρ r) _ = _
  cases vw ρ r <;> rfl
theorem sts_map : ∀ {ps : List Str}, sts? (ps.map D.str) = some ps
  | [] => rfl
  | p :: r => by
    show (sts? (r.map D.str)).map (p :: ·) = _
    rw [sts_map]; rfl
theorem srtA_str {K : R → En → Prop} {ns : List Str} : srtAK K ρ (.lst (ns.map .str)) = (ns.length < 64 ∧ K (.va (Wl ((srtT ns).map .str))) ρ) := by
  show (match sts? (ns.map .str) with
    | some ns => ns.length < 64 ∧ K (.va (Wl ((srtT ns).map .str))) ρ
    | none => match ivs? (ns.map .str) with
      | some ps => K (.va (Wl ((srtP ps).map ivD))) ρ
      | none => False) = _
  rw [sts_map]
theorem srtA_prs {K : R → En → Prop} {ps : List (Int × Int)} : srtAK K ρ (.lst (ps.map ivD)) = K (.va (Wl ((srtP ps).map ivD))) ρ := by
  cases ps with
  | nil => 
    show (0 < 64 ∧ _) = _
    simp [srtT, srtP]
  | cons p r =>
    show (match ivs? ((p :: r).map ivD) with
      | some ps => K (.va (Wl ((srtP ps).map ivD))) ρ
      | none => False) = _
    rw [ivs_map]
end
end Pm

namespace Pm
open PySem PySem.Spec PyProof.Rows L2
/-! ## the speeds of the rounds fall -/
theorem ln_one {p : Iv} {x y : Int} : ln [p] x y = max 0 (min p.2 y - max p.1 x) := by
  unfold ln
  rw [fp_one]
  split
  · simp; omega
  · simp; omega
theorem ln_app {l m : List Iv} {x y : Int} : ln (l ++ m) x y = ln l x y + ln m x y := by
  unfold ln
  rw [fp_app, List.map_append, List.sum_append]
theorem ln_cons {p : Iv} {r : List Iv} {x y : Int} : ln (p :: r) x y = ln [p] x y + ln r x y := ln_app (l := [p])
theorem ln_cut {x y a : Int} : ∀ {fr : List Iv}, (∀ p ∈ fr, p.1 < p.2) → ln fr x y = ln fr x (min y a) + ln fr (max x a) y
  | [], _ => rfl
  | p :: r, h => by
    have := ln_cut (x := x) (y := y) (a := a) (fr := r) fun q hq => h q (by simp [hq])
    have hp := h p (by simp)
    rw [ln_cons, ln_cons (y := min y a), ln_cons (x := max x a), this, ln_one, ln_one, ln_one]
    omega
theorem ln_none {fr : List Iv} {x y : Int} (h : ∀ t, inF fr t → x ≤ t → t < y → False) : ln fr x y = 0 := by
  unfold ln
  have : fp fr x y = [] := by
    by_cases hn : fp fr x y = []
    · exact hn
    · obtain ⟨t, a, b, c⟩ := fp_ne.mp hn
      exact (h t a b c).elim
  rw [this]; rfl
theorem ln_fp {fr : List Iv} (h : FrOk fr) {a b x y : Int} : ln (fp fr a b) x y = ln fr (max a x) (min b y) := by unfold ln; rw [fp_fp h]
theorem ln_pos0 {x z : Int} : ∀ {fr : List Iv}, (∀ p ∈ fr, 0 ≤ p.1) → ln fr (max 0 x) z = ln fr x z
  | [], _ => rfl
  | p :: r, h => by
    have := ln_pos0 (x := x) (z := z) (fr := r) fun q hq => h q (by simp [hq])
    have hp := h p (by simp)
    rw [ln_cons, ln_cons (x := x), this, ln_one, ln_one]
    omega
theorem ln_end {x z M : Int} : ∀ {fr : List Iv}, (∀ p ∈ fr, p.2 ≤ M) → ln fr x (min M z) = ln fr x z
  | [], _ => rfl
  | p :: r, h => by
    have := ln_end (x := x) (z := z) (fr := r) fun q hq => h q (by simp [hq])
    have hp := h p (by simp)
    rw [ln_cons, ln_cons (y := z), this, ln_one, ln_one]
    omega
theorem ln_mono {x y x' y' : Int} (hx : x' ≤ x) (hy : y ≤ y') : ∀ {fr : List Iv}, ln fr x y ≤ ln fr x' y'
  | [] => Int.le_refl _
  | p :: r => by
    have := ln_mono hx hy (fr := r)
    rw [ln_cons, ln_cons (x := x'), ln_one, ln_one]
    omega
theorem FrOk.lt {fr : List Iv} (h : FrOk fr) : ∀ p ∈ fr, p.1 < p.2 := fun p hp => (h.pos p hp).2
theorem ln_ta {fr : List Iv} (h : FrOk fr) {a b x y : Int} : ln (ta fr a b) x y = ln fr x (min y a) + ln fr (max x b) y := by
  unfold ta
  rw [ln_app, ln_fp h, ln_fp h, ln_pos0 fun p hp => (h.pos p hp).1, ln_end (lastE_le h), Int.min_comm a y, Int.max_comm b x]
theorem ln_split {fr : List Iv} (h : FrOk fr) {a b x y : Int} (hab : a ≤ b) : ln fr x y = ln (fp fr a b) x y + ln (ta fr a b) x y := by
  rw [ln_ta h, ln_fp h, ln_cut h.lt (x := x) (y := y) (a := a), ln_cut h.lt (x := max x a) (y := y) (a := b)]
  have e1 : max (max x a) b = max x b := by omega
  rw [e1, Int.max_comm a x, Int.min_comm b y]
  omega
theorem ln_sub {fr : List Iv} (h : FrOk fr) {A B a b : Int} (hc : ∀ t, inF fr t → A ≤ t → t < B → a ≤ t ∧ t < b) : ln fr A B ≤ ln fr a b := by
  rw [ln_cut h.lt (x := A) (y := B) (a := a), ln_cut h.lt (x := max A a) (y := B) (a := b)]
  rw [ln_none (x := A) (y := min B a) fun t h1 h2 h3 => by have := hc t h1 h2 (by omega); omega]
  rw [ln_none (x := max (max A a) b) (y := B) fun t h1 h2 h3 => by have := hc t h1 (by omega) h3; omega]
  have := ln_mono (x := max A a) (y := min B b) (x' := a) (y' := b) (by omega) (by omega) (fr := fr)
  omega
/-! sums of works -/
def wof (js : List Job) (p : Job → Bool) : Int := ((js.filter p).map (·.w)).sum
theorem wof_cons {j : Job} {js : List Job} {p : Job → Bool} : wof (j :: js) p = (if p j = true then j.w else 0) + wof js p := by
  unfold wof
  rw [List.filter_cons]
  split
  · rw [List.map_cons, List.sum_cons]
  · omega
theorem wof_two : ∀ {js : List Job} {p q r : Job → Bool}, (∀ j ∈ js, 0 ≤ j.w) → (∀ j ∈ js, p j = true → r j = true) → (∀ j ∈ js, q j = true → r j = true) → (∀ j ∈ js, ¬ (p j = true ∧ q j = true)) → wof js p + wof js q ≤ wof js r
  | [], _, _, _, _, _, _, _ => by simp [wof]
  | j :: js, p, q, r, h0, h1, h2, h3 => by
    have ih := wof_two (js := js) (p := p) (q := q) (r := r) (fun x hx => h0 x (by simp [hx])) (fun x hx => h1 x (by simp [hx])) (fun x hx => h2 x (by simp [hx])) (fun x hx => h3 x (by simp [hx]))
    have a := h0 j (by simp)
    have b := h1 j (by simp)
    have c := h2 j (by simp)
    have d := h3 j (by simp)
    rw [wof_cons, wof_cons, wof_cons]
    by_cases hp : p j = true <;> by_cases hq : q j = true
    · exact absurd ⟨hp, hq⟩ d
    · rw [if_pos hp, if_neg hq, if_pos (b hp)]; omega
    · rw [if_neg hp, if_pos hq, if_pos (c hq)]; omega
    · rw [if_neg hp, if_neg hq]; split <;> omega
theorem ld_js {fr : List Iv} {js : List Job} {a b : Int} : ld (rowsOf fr js) a b = wof js fun j => inR a b (rowOf fr j) := by
  unfold ld wof rowsOf
  rw [List.filter_map, List.map_map]
  rfl
theorem minJ {α : Type} (f : α → Int) : ∀ {l : List α}, l ≠ [] → ∃ m ∈ l, ∀ k ∈ l, f m ≤ f k
  | [x], _ => ⟨x, by simp, fun k hk => by rw [List.mem_singleton.mp hk]; exact Int.le_refl _⟩
  | x :: y :: r, _ => by
    obtain ⟨m, hm, h⟩ := minJ f (l := y :: r) (by simp)
    by_cases hx : f x ≤ f m
    · refine ⟨x, by simp, fun k hk => ?_⟩
      rcases List.mem_cons.mp hk with rfl | hk
      · exact Int.le_refl _
      · have := h k hk; omega
    · refine ⟨m, List.mem_cons_of_mem _ hm, fun k hk => ?_⟩
      rcases List.mem_cons.mp hk with rfl | hk
      · omega
      · exact h k hk
theorem geP_le {rs : List Row} {fr : List Iv} {a b a' b' : Int} (h : geP rs fr a b a' b') : ld rs a' b' * ln fr a b ≤ ld rs a b * ln fr a' b' := by
  rcases h with h | h
  · exact Int.le_of_lt h
  · exact Int.le_of_eq h.1
theorem fall {js : List Job} {fr : List Iv} {L N a b L2 N2 a2 b2 : Int} (ok : RsOk fr js) (hb : BestOf (rowsOf fr js) fr (Pairs (rowsOf fr js)) (some (L, N, a, b)))
    (hb2 : BestOf (rowsOf (ta fr a b) (js.filter (outR (((rowsOf fr js).filter (inR a b)).map (·.nm))))) (ta fr a b) (Pairs (rowsOf (ta fr a b) (js.filter (outR (((rowsOf fr js).filter (inR a b)).map (·.nm)))))) (some (L2, N2, a2, b2))) : L2 * N ≤ L * N2 := by
  have hab := best_lt ok hb
  have ok2 := ok.next hb
  have hab2 := best_lt ok2 hb2
  have hout : ∀ j ∈ js, outR (((rowsOf fr js).filter (inR a b)).map (·.nm)) j = true → ¬ inR a b (rowOf fr j) = true := fun j hj z z2 => by
    unfold outR at z
    rw [decide_eq_true (mem_nms.mpr ⟨j, hj, rfl, z2⟩)] at z
    cases z
  generalize hnm : ((rowsOf fr js).filter (inR a b)).map (·.nm) = nms at *
  obtain ⟨hp, ho, hL, hN, hge⟩ := id hb
  obtain ⟨hp2, ho2, hL2, hN2, hge2⟩ := id hb2
  have fo := ok.fo
  have fo2 := ok2.fo
  rw [ld_js] at hL hL2
  -- the group
  have hX : (js.filter (outR nms)).filter (fun j => inR a2 b2 (rowOf (ta fr a b) j)) ≠ [] := fun z => by
    unfold okP at ho2
    rw [ld_js] at ho2
    unfold wof at ho2
    rw [z] at ho2
    simp at ho2
  obtain ⟨m1, hm1, hf⟩ := minJ (fun j => (rowOf fr j).f) hX
  obtain ⟨m2, hm2, hl⟩ := minJ (fun j => - (rowOf fr j).l) hX
  have mem : ∀ j, j ∈ (js.filter (outR nms)).filter (fun j => inR a2 b2 (rowOf (ta fr a b) j)) ↔ (j ∈ js ∧ outR nms j = true) ∧ inR a2 b2 (rowOf (ta fr a b) j) = true := fun j => by rw [List.mem_filter, List.mem_filter]
  have q1 := (mem m1).mp hm1
  have q2 := (mem m2).mp hm2
  have w1 := ok.win m1 q1.1.1
  have w2 := ok.win m2 q2.1.1
  have v1 := ok2.win m1 (List.mem_filter.mpr q1.1)
  have v2 := ok2.win m2 (List.mem_filter.mpr q2.1)
  have r1 := of_decide_eq_true q1.2
  have r2 := of_decide_eq_true q2.2
  obtain ⟨⟨f1, f2, f3⟩, _⟩ := rowOf_f fo w1
  obtain ⟨⟨l1, l2, l3⟩, _⟩ := rowOf_l fo w2
  obtain ⟨⟨g1, g2, g3⟩, g4⟩ := rowOf_f fo2 v1
  obtain ⟨⟨k1, k2, k3⟩, k4⟩ := rowOf_l fo2 v2
  generalize hA : (rowOf fr m1).f = A at *
  generalize hB : (rowOf fr m2).l = B at *
  have cov : ∀ t, inF (ta fr a b) t → A ≤ t → t < B → a2 ≤ t ∧ t < b2 := fun t ht h1 h2 => by
    constructor
    · by_cases hz : a2 ≤ t
      · exact hz
      · have := g4 t ht (by omega) (by omega)
        omega
    · by_cases hz : t < b2
      · exact hz
      · have := k4 t ht (by omega) (by omega)
        omega
  have hin : ∀ j ∈ js, (outR nms j && inR a2 b2 (rowOf (ta fr a b) j)) = true → A ≤ (rowOf fr j).f ∧ (rowOf fr j).l ≤ B := fun j hj z => by
    rw [Bool.and_eq_true] at z
    have := (mem j).mpr ⟨⟨hj, z.1⟩, z.2⟩
    have h1 := hf j this
    have h2 := hl j this
    omega
  have pos : ∀ j ∈ js, 0 ≤ j.w := fun j hj => Int.le_of_lt (ok.pos j hj)
  have eL2 : L2 = wof js fun j => outR nms j && inR a2 b2 (rowOf (ta fr a b) j) := by
    rw [hL2]
    unfold wof
    rw [List.filter_filter]
    congr 2
    exact List.filter_congr fun j _ => Bool.and_comm _ _
  have L0 : 0 < L2 := by rw [hL2, ← ld_js]; exact ho2
  have Lp : 0 < L := by rw [hL, ← ld_js]; exact ho
  have N0 : 0 < N := by rw [hN]; exact ok.ln_pos ho
  have mr1 : rowOf fr m1 ∈ rowsOf fr js := List.mem_map.mpr ⟨m1, q1.1.1, rfl⟩
  have mr2 : rowOf fr m2 ∈ rowsOf fr js := List.mem_map.mpr ⟨m2, q2.1.1, rfl⟩
  by_cases hcase : ∃ t, inF fr t ∧ (a ≤ t ∧ t < b) ∧ A ≤ t ∧ t < B
  · obtain ⟨t0, _, ⟨t1, t2⟩, t3, t4⟩ := hcase
    have hld : L + L2 ≤ ld (rowsOf fr js) (min a A) (max b B) := by
      rw [ld_js, hL, eL2]
      refine wof_two pos (fun j hj z => ?_) (fun j hj z => ?_) fun j hj z => ?_
      · have := of_decide_eq_true z
        exact decide_eq_true (by omega)
      · have := hin j hj z
        exact decide_eq_true (by omega)
      · have z2 := z.2
        rw [Bool.and_eq_true] at z2
        exact hout j hj z2.1 z.1
    have hpr : Pairs (rowsOf fr js) (min a A) (max b B) := by
      refine ⟨?_, ?_⟩
      · by_cases h : a ≤ A
        · obtain ⟨r, hr, e⟩ := hp.1
          exact ⟨r, hr, by rw [e]; omega⟩
        · exact ⟨_, mr1, by rw [hA]; omega⟩
      · by_cases h : B ≤ b
        · obtain ⟨r, hr, e⟩ := hp.2
          exact ⟨r, hr, by rw [e]; omega⟩
        · exact ⟨_, mr2, by rw [hB]; omega⟩
    have g := geP_le (hge _ _ hpr (show 0 < _ by omega))
    rw [← hN, ld_js (a := a) (b := b), ← hL] at g
    have hln : ln fr (min a A) (max b B) ≤ N + N2 := by
      rw [ln_split fo (a := a) (b := b) (by omega), ln_fp fo, hN, hN2]
      rw [show max a (min a A) = a by omega, show min b (max b B) = b by omega]
      have := ln_sub fo2 (A := min a A) (B := max b B) (a := a2) (b := b2) fun t ht h1 h2 => by
        have hn := ((inF_ta fo (by omega)).mp ht).2
        exact cov t ht (by omega) (by omega)
      omega
    have m1 : (L + L2) * N ≤ ld (rowsOf fr js) (min a A) (max b B) * N := Int.mul_le_mul_of_nonneg_right hld (by omega)
    have m2 : L * ln fr (min a A) (max b B) ≤ L * (N + N2) := Int.mul_le_mul_of_nonneg_left hln (by omega)
    rw [Int.add_mul] at m1
    rw [Int.mul_add] at m2
    omega
  · have hld : L2 ≤ ld (rowsOf fr js) A B := by
      rw [ld_js, eL2]
      have := wof_two (js := js) (p := fun _ => false) (q := fun j => outR nms j && inR a2 b2 (rowOf (ta fr a b) j)) (r := fun j => inR A B (rowOf fr j)) pos (fun j hj z => by cases z) (fun j hj z => by
        have := hin j hj z
        exact decide_eq_true this) (fun j hj z => by cases z.1)
      have e : wof js (fun _ => false) = 0 := by
        unfold wof
        have : js.filter (fun _ => false) = [] := List.filter_eq_nil_iff.mpr fun _ _ h => (by cases h)
        rw [this]; rfl
      omega
    have hpr : Pairs (rowsOf fr js) A B := ⟨⟨_, mr1, hA⟩, ⟨_, mr2, hB⟩⟩
    have g := geP_le (hge _ _ hpr (show 0 < _ by omega))
    rw [← hN, ld_js (a := a) (b := b), ← hL] at g
    have hln : ln fr A B ≤ N2 := by
      rw [ln_split fo (a := a) (b := b) (by omega), hN2]
      rw [ln_none (fr := fp fr a b) fun t h1 h2 h3 => hcase ⟨t, (inF_fp.mp h1).1, (inF_fp.mp h1).2, h2, h3⟩]
      have := ln_sub fo2 (A := A) (B := B) (a := a2) (b := b2) cov
      omega
    have m1 : L2 * N ≤ ld (rowsOf fr js) A B * N := Int.mul_le_mul_of_nonneg_right hld (by omega)
    have m2 : L * ln fr A B ≤ L * N2 := Int.mul_le_mul_of_nonneg_left hln (by omega)
    omega
/-! all rounds -/
theorem cross {L1 N1 L2 N2 L3 N3 : Int} (n1 : 0 < N1) (n2 : 0 < N2) (n3 : 0 < N3) (h1 : L2 * N1 ≤ L1 * N2) (h2 : L3 * N2 ≤ L2 * N3) : L3 * N1 ≤ L1 * N3 := by
  have k1 : (L2 * N1) * N3 ≤ (L1 * N2) * N3 := Int.mul_le_mul_of_nonneg_right h1 (Int.le_of_lt n3)
  have k2 : (L3 * N2) * N1 ≤ (L2 * N3) * N1 := Int.mul_le_mul_of_nonneg_right h2 (Int.le_of_lt n1)
  have e1 : (L2 * N1) * N3 = (L2 * N3) * N1 := by rw [Int.mul_assoc, Int.mul_comm N1, ← Int.mul_assoc]
  have e2 : (L3 * N2) * N1 = (L3 * N1) * N2 := by rw [Int.mul_assoc, Int.mul_comm N2, ← Int.mul_assoc]
  have e3 : (L1 * N2) * N3 = (L1 * N3) * N2 := by rw [Int.mul_assoc, Int.mul_comm N2, ← Int.mul_assoc]
  exact Int.le_of_mul_le_mul_right (show (L3 * N1) * N2 ≤ (L1 * N3) * N2 by omega) n2
/-- r is as fast as s -/
def fstr (r s : Rd) : Prop := s.L * r.N ≤ r.L * s.N
theorem Rnds.pos {js : List Job} {fr : List Iv} {rs : List Rd} (hr : Rnds js fr rs) (ok : RsOk fr js) : ∀ r ∈ rs, 0 < r.L ∧ 0 < r.N := by
  induction hr with
  | nil => intro r hr; cases hr
  | @cons js fr L N a b rs hn hb hnx ih =>
    intro r hr
    rcases List.mem_cons.mp hr with rfl | hr
    · obtain ⟨hp, ho, hL, hN, _⟩ := id hb
      exact ⟨by show 0 < L; rw [hL]; exact ho, by show 0 < N; rw [hN]; exact ok.ln_pos ho⟩
    · exact ih (ok.next hb) r hr
theorem Rnds.head {js : List Job} {fr : List Iv} {s : Rd} {rs : List Rd} (h : Rnds js fr (s :: rs)) : ∃ L N a b, s.L = L ∧ s.N = N ∧ BestOf (rowsOf fr js) fr (Pairs (rowsOf fr js)) (some (L, N, a, b)) := by
  cases h with
  | cons hn hb h => exact ⟨_, _, _, _, rfl, rfl, hb⟩
theorem Rnds.fall {js : List Job} {fr : List Iv} {rs : List Rd} (hr : Rnds js fr rs) (ok : RsOk fr js) : rs.Pairwise fstr := by
  induction hr with
  | nil => exact .nil
  | @cons js fr L N a b rs hn hb hnx ih =>
    have ok2 := ok.next hb
    have i := ih ok2
    have hps := hnx.pos ok2
    have N0 : 0 < N := by
      obtain ⟨hp, ho, hL, hN, _⟩ := id hb
      rw [hN]; exact ok.ln_pos ho
    rw [List.pairwise_cons]
    refine ⟨fun s hs => ?_, i⟩
    cases rs with
    | nil => cases hs
    | cons s0 rs2 =>
      obtain ⟨L2, N2, a2, b2, e1, e2, hb2⟩ := hnx.head
      have f := Pm.fall ok hb hb2
      rw [← e1, ← e2] at f
      rcases List.mem_cons.mp hs with rfl | hs
      · exact f
      · rw [List.pairwise_cons] at i
        have := i.1 s hs
        exact cross N0 (hps _ (List.mem_cons_self)).2 (hps s (List.mem_cons_of_mem _ hs)).2 f this
theorem nmJ_inj {js : List Job} (h : (js.map (·.nm)).Nodup) : ∀ {x y : Job}, x ∈ js → y ∈ js → x.nm = y.nm → x = y := by
  induction js with
  | nil => intro x y hx; cases hx
  | cons q r ih =>
    intro x y hx hy e
    rw [List.map_cons, List.nodup_cons] at h
    rcases List.mem_cons.mp hx with hx' | hx' <;> rcases List.mem_cons.mp hy with hy' | hy'
    · rw [hx', hy']
    · subst hx'
      exact absurd (show x.nm ∈ r.map (·.nm) from List.mem_map.mpr ⟨y, hy', e.symm⟩) h.1
    · subst hy'
      exact absurd (show y.nm ∈ r.map (·.nm) from List.mem_map.mpr ⟨x, hx', e⟩) h.1
    · exact ih h.2 hx' hy' e
theorem Rnds.tms_in {js : List Job} {fr : List Iv} {rs : List Rd} (hr : Rnds js fr rs) (ok : RsOk fr js) : ∀ r ∈ rs, ∀ t, inF r.tms t → inF fr t := by
  induction hr with
  | nil => intro r hr; cases hr
  | @cons js fr L N a b rs hn hb hnx ih =>
    intro r hr t ht
    rcases List.mem_cons.mp hr with rfl | hr
    · exact (inF_fp.mp ht).1
    · have hab := best_lt ok hb
      exact ((inF_ta ok.fo (by omega)).mp (ih (ok.next hb) r hr t ht)).1
/-- the window of a job in the rounds: as long as it is free; the slower rounds have no part in it -/
theorem Rnds.window {js : List Job} {fr : List Iv} {rs : List Rd} (hr : Rnds js fr rs) (ok : RsOk fr js) (hn : (js.map (·.nm)).Nodup) : ∀ j ∈ js, (rs.map fun r => ln r.tms j.c j.d).sum = ln fr j.c j.d ∧ ∀ r ∈ rs, j.nm ∈ r.nms → ∀ s ∈ rs, ¬ fstr s r → ∀ t, inF s.tms t → j.c ≤ t → t < j.d → False := by
  induction hr with
  | nil => intro j hj; cases hj
  | @cons js fr L N a b rs hne hb hnx ih =>
    intro j hj
    have hab := best_lt ok hb
    have ok2 := ok.next hb
    have hfall := (Rnds.cons hne hb hnx).fall ok
    have hap := (Rnds.cons hne hb hnx).apart
    have hin : j.nm ∈ ((rowsOf fr js).filter (inR a b)).map (·.nm) ↔ inR a b (rowOf fr j) = true := by
      rw [mem_nms]
      constructor
      · rintro ⟨j', hj', e, h2⟩
        have := nmJ_inj hn hj' hj e
        subst this
        exact h2
      · intro h2
        exact ⟨j, hj, rfl, h2⟩
    have hns : ((js.filter (outR (((rowsOf fr js).filter (inR a b)).map (·.nm)))).map (·.nm)).Nodup := (List.filter_sublist.map _).nodup hn
    have ih' := ih ok2 hns
    generalize hnm : ((rowsOf fr js).filter (inR a b)).map (·.nm) = nms at *
    rw [List.map_cons, List.sum_cons]
    have e0 := ln_split ok.fo (a := a) (b := b) (x := j.c) (y := j.d) (by omega)
    by_cases hj0 : j.nm ∈ nms
    · have hR := (inR_iff ok.fo (ok.win j hj)).mp (hin.mp hj0)
      have none : ∀ t, inF (ta fr a b) t → j.c ≤ t → t < j.d → False := fun t h1 h2 h3 => by
        obtain ⟨g1, g2⟩ := (inF_ta ok.fo (by omega)).mp h1
        exact g2 (hR t g1 h2 h3)
      have hz : ∀ l : List Rd, (∀ r ∈ l, ∀ t, inF r.tms t → inF (ta fr a b) t) → (l.map fun r => ln r.tms j.c j.d).sum = 0 := by
        intro l
        induction l with
        | nil => intro _; rfl
        | cons r l ih =>
          intro h
          rw [List.map_cons, List.sum_cons, ih fun x hx => h x (by simp [hx]), ln_none fun t h1 h2 h3 => none t (h r (by simp) t h1) h2 h3]
          rfl
      refine ⟨?_, fun r hr hrn s hs hns => ?_⟩
      · rw [hz rs (hnx.tms_in ok2), e0, ln_none none]
      · rw [List.pairwise_cons] at hap
        rcases List.mem_cons.mp hr with rfl | hr
        · rcases List.mem_cons.mp hs with rfl | hs
          · exact absurd (Int.le_refl _) hns
          · exact fun t h1 => none t (hnx.tms_in ok2 s hs t h1)
        · exact absurd hrn (hap.1 r hr _ hj0)
    · have hj2 : j ∈ js.filter (outR nms) := List.mem_filter.mpr ⟨hj, by unfold outR; rw [decide_eq_false hj0]; rfl⟩
      obtain ⟨i1, i2⟩ := ih' j hj2
      refine ⟨by rw [i1, e0], fun r hr hrn s hs hns => ?_⟩
      rcases List.mem_cons.mp hr with rfl | hr
      · exact absurd hrn hj0
      · rcases List.mem_cons.mp hs with rfl | hs
        · rw [List.pairwise_cons] at hfall
          exact absurd (hfall.1 r hr) hns
        · exact i2 r hr hrn s hs hns
end Pm

namespace Pm
open PySem PySem.Spec PyProof.Rows L2
/-! ## what the rounds are -/
theorem filter_perm {α : Type} {p : α → Bool} : ∀ l : List α, (l.filter p ++ l.filter fun x => !p x).Perm l
  | [] => .refl _
  | x :: l => by
    have ih := filter_perm (p := p) l
    rw [List.filter_cons, List.filter_cons]
    cases h : p x with
    | true => simpa using ih
    | false =>
      simp only [Bool.not_false, if_true, Bool.false_eq_true, if_false]
      exact List.perm_middle.trans (ih.cons x)
theorem nms_filter {fr : List Iv} {js : List Job} {a b : Int} : ((rowsOf fr js).filter (inR a b)).map (·.nm) = (js.filter fun j => inR a b (rowOf fr j)).map (·.nm) := by
  unfold rowsOf
  rw [List.filter_map, List.map_map]
  rfl
theorem in_nmsJ {fr : List Iv} {js : List Job} (hn : (js.map (·.nm)).Nodup) {a b : Int} {j : Job} (hj : j ∈ js) : j.nm ∈ ((rowsOf fr js).filter (inR a b)).map (·.nm) ↔ inR a b (rowOf fr j) = true := by
  rw [mem_nms]
  constructor
  · rintro ⟨j', hj', e, h2⟩
    have := nmJ_inj hn hj' hj e
    subst this
    exact h2
  · intro h2
    exact ⟨j, hj, rfl, h2⟩
structure RdIs (js : List Job) (r : Rd) : Prop where
  n : (r.tms.map fun p => p.2 - p.1).sum = r.N
  l : wof js (fun j => decide (j.nm ∈ r.nms)) = r.L
theorem Rnds.is {js : List Job} {fr : List Iv} {rs : List Rd} (hr : Rnds js fr rs) (hn : (js.map (·.nm)).Nodup) : (∀ r ∈ rs, RdIs js r) ∧ (rs.flatMap (·.nms)).Perm (js.map (·.nm)) := by
  induction hr with
  | nil => exact ⟨fun r hr => (by cases hr), .refl _⟩
  | @cons js fr L N a b rs hne hb hnx ih =>
    have hns : ((js.filter (outR (((rowsOf fr js).filter (inR a b)).map (·.nm)))).map (·.nm)).Nodup := (List.filter_sublist.map _).nodup hn
    obtain ⟨i1, i2⟩ := ih hns
    obtain ⟨hp, ho, hL, hN, _⟩ := id hb
    have hin := fun j hj => in_nmsJ (fr := fr) (a := a) (b := b) (j := j) hn hj
    have hnf := nms_filter (fr := fr) (js := js) (a := a) (b := b)
    rw [ld_js] at hL
    generalize hnm : ((rowsOf fr js).filter (inR a b)).map (·.nm) = nms at *
    have ef : js.filter (fun j => inR a b (rowOf fr j)) = js.filter fun j => decide (j.nm ∈ nms) := List.filter_congr fun j hj => by
      have := hin j hj
      by_cases h : inR a b (rowOf fr j) = true
      · rw [h, decide_eq_true (this.mpr h)]
      · rw [decide_eq_false (fun z => h (this.mp z))]
        simpa using h
    refine ⟨fun r hr => ?_, ?_⟩
    · rcases List.mem_cons.mp hr with rfl | hr
      · refine ⟨by rw [hN]; rfl, ?_⟩
        show wof js (fun j => decide (j.nm ∈ nms)) = L
        rw [hL]
        unfold wof
        rw [ef]
      · obtain ⟨k1, k2⟩ := i1 r hr
        refine ⟨k1, ?_⟩
        rw [← k2]
        unfold wof
        rw [List.filter_filter]
        congr 2
        refine List.filter_congr fun j hj => ?_
        by_cases h : j.nm ∈ r.nms
        · have : j.nm ∉ nms := fun z => by
            obtain ⟨j', hj', e⟩ := hnx.sub r hr _ h
            have := (List.mem_filter.mp hj').2
            unfold outR at this
            rw [e, decide_eq_true z] at this
            cases this
          unfold outR
          rw [decide_eq_true h, decide_eq_false this]; rfl
        · rw [decide_eq_false h]; rfl
    · rw [List.flatMap_cons]
      show (nms ++ _).Perm _
      have h1 : (js.filter (outR nms)) = js.filter fun j => !decide (j.nm ∈ nms) := rfl
      rw [h1] at i2
      have h2 : nms = (js.filter fun j => decide (j.nm ∈ nms)).map (·.nm) := by rw [← ef]; exact hnf
      have h3 := (filter_perm (p := fun j : Job => decide (j.nm ∈ nms)) js).map (·.nm)
      rw [List.map_append, ← h2] at h3
      exact (i2.append_left nms).trans h3
theorem ln_sum {c d : Int} : ∀ {l : List Iv}, ln l c d = (l.map fun p => max 0 (min p.2 d - max p.1 c)).sum
  | [] => rfl
  | p :: r => by rw [ln_cons, ln_one, List.map_cons, List.sum_cons, ln_sum]
theorem ln_frOf {js : List Job} (h : ∀ j ∈ js, 0 ≤ j.c ∧ j.c < j.d ∧ 0 < j.w) {j : Job} (hj : j ∈ js) : ln (frOf js) j.c j.d = j.d - j.c := by
  obtain ⟨lo, hi, e, h1, _⟩ := frOf_ne (List.ne_nil_of_mem hj)
  have a := h j hj
  have b := h1 j hj
  rw [e, ln_one]
  show max 0 (min hi j.d - max lo j.c) = _
  omega
/-- the part of a window in the rounds that are as fast as p says -/
def covS (rs : List Rd) (p : Rd → Bool) (c d : Int) : Int := (rs.map fun r => if p r = true then ln r.tms c d else 0).sum
theorem covS_snoc {rs : List Rd} {r : Rd} {p : Rd → Bool} {c d : Int} : covS (rs ++ [r]) p c d = covS rs p c d + (if p r = true then ln r.tms c d else 0) := by
  unfold covS
  rw [List.map_append, List.sum_append]; simp
theorem Rnds.cov {js : List Job} {rs : List Rd} (hr : Rnds js (frOf js) rs) (h : ∀ j ∈ js, 0 ≤ j.c ∧ j.c < j.d ∧ 0 < j.w) (hn : (js.map (·.nm)).Nodup) {j : Job} (hj : j ∈ js) {r : Rd} (hrm : r ∈ rs) (hrn : j.nm ∈ r.nms) {p : Rd → Bool} (hp : ∀ s ∈ rs, p s = false → ¬ fstr s r) : covS rs p j.c j.d = j.d - j.c := by
  obtain ⟨w1, w2⟩ := hr.window (frOf_ok h) hn j hj
  rw [ln_frOf h hj] at w1
  rw [← w1]
  unfold covS
  congr 1
  refine List.map_congr_left fun s hs => ?_
  by_cases q : p s = true
  · rw [if_pos q]
  · rw [if_neg q]
    exact (ln_none fun t h1 h2 h3 => w2 r hrm hrn s hs (hp s hs (by simpa using q)) t h1 h2 h3).symm
/-- sorted, apart: in order -/
theorem spans_ok : ∀ {l : List Iv}, (∀ p ∈ l, p.1 < p.2) → l.Pairwise leIv → l.Pairwise (fun p q => p.2 ≤ q.1 ∨ q.2 ≤ p.1) → l.Pairwise fun p q => p.2 ≤ q.1
  | [], _, _, _ => .nil
  | p :: r, h1, h2, h3 => by
    rw [List.pairwise_cons] at h2 h3 ⊢
    refine ⟨fun q hq => ?_, spans_ok (fun q hq => h1 q (by simp [hq])) h2.2 h3.2⟩
    have a := h2.1 q hq
    have b := h3.1 q hq
    have c := h1 p (by simp)
    have d := h1 q (by simp [hq])
    unfold leIv ltIv at a
    omega
end Pm

namespace Pm
open PySem PySem.Spec PyProof.Rows L2
local macro_rules | `(tactic| walk_at "pm") => `(tactic| simp only [e_fd, fd_ob, fd_fz, fd_ow, fd_dk, lk_hit, lk_miss, lk_nil, pt_hit, pt_miss, pt_nil, nA_alf, vw_alf, af_ob, fcD_fz, fcD_ow, fcD_dk, cf_alf, cf_al, cf_va, afF_ob, alF_at, fzC_alf, afZ_ob, afZ_fz, afZ_ow, stC_alf, e_sFd, sfd_at, e_me, me_ob, oN_none, isOw_ob, e_mk, hd_cons, e_muR, muR1_ow, muR2_ow, isPl_al, isPl_alf, setR_al, setR_alf, setRf_ob, e_dn, e_dkK, dk1_dk, dk2_k, kD_int, kD_str, e_dg, e_di, e_diT, e_dp, e_keyK, e_dcc, dc_nil, dc_cons, e_srt, seqD_l, seqD_t, e_rev, f_lcm, c_inT, c_ninT, nq_1, nq_2, nq_3, nq_4, nq_5, nq_6, nq_7, Bool.false_bne, Bool.true_bne, e_lcO, e_mth, e_mth0, tyK_lst, tyK_str, tyD_lst, tyD_str, f_index, e_iEnum, enK_one, walkE_lst, walkE_tup, e_cSort, srtK_lst, f_maxL, f_minL, shp_rqs, any_rq, sz0, sz1, sz2, sz3, sz4, sz5, sz6, sz7, sz8, ix_pt0, ix_pt1, true_false_F, c_eqB, c_neB, sq_nx, ix_rq0, ix_rq1, c_eqR, c_neR, c_eqR0, c_neR0, isNon_rq, shp_rqT, clsD_rq_tuple, f_len_rq, e_iAny, walkA_lst, walkA_tup, e_oNone, e_oSome, oiK_int, e_slice, sl_lstD, sl_tupD, sl_strD, intK_int, e_chG, e_chT_le_lt, e_chT_lt_le, e_chT_le_le, e_chT_lt_lt, e_ch_le_lt, e_ch_lt_le, e_ch_le_le, e_ch_lt_lt, f_sum, f_all, f_any, e_mu, muN_ow, muK_ow, f_app, f_ext, f_pop, f_ins, sq_rt, sq_bk, sq_ct, sq_ex, lp_nx, lp_ct, lp_bk, lp_rt, lp_ex, fn_nx, fn_rt, fn_ex, oD_some, oD_none, e_nm, nm_fz, nm_ow, nm_dk, e_nmC, nmc_fz, e_K, vw_fz, vw_ow, vw_al, alV_fz, alV_ow, nA_va, nA_al, fzC_fz, fzC_ow, fzC_al, alZ_fz, alZ_ow, stC_va, stC_al, fzL_nil, fzL_cons, e_fzK, b_addI, b_addS, b_addL, b_addT, b_sub, b_mul, b_div, b_mod, b_pow, c_lt, c_le, c_gt, c_ge, c_eqS, c_neS, c_eqI, c_neI, c_eqT, c_neT, c_eqL, c_neL, c_is, c_isn, c_in, c_nin, isNon_non, isNon_int, isNon_str, isNon_tup, isNon_lst, isNon_bl, shp_intT, shp_nonT, shp_blT, shp_ratT, eqD_rat, e_bin, e_cmp, e_cmpT, e_tru, tru_bl, tru_int, tru_non, tru_lst, tru_tup, tru_str, trs_bl, trs_int, trs_non, trs_lst, trs_tup, trs_str, e_and, e_or, e_not, e_yes, isB_bl, e_andV, e_orV, e_notV, e_ifE, e_neg, neg_int, e_aNil, e_aOne, e_aCons, e_tup, e_lst, e_ix, ix_tupD, ix_lstD, ix_strD, e_isi, e_cb, e_cD1, e_cD2, e_list, list_tup, list_lst, list_scr, e_tuple, tup_tup, tup_lst, f_len_tup, f_len_lst, f_len_scr, f_len_str, f_int, f_abs, f_gcd, f_max, f_min, e_call, e_callK, fzM_nil, fzM_f, fzM_t, isOw_fz, isOw_ow, isOw_no, isOw_dk, brs_nil, brs_l, brs_r, cts_nil, cts_l, cts_r, wb_nil, wb_l, wb_r, outs_nil, outs_cons, ret_va, ret_al, e_sNil, e_seq, e_pass, e_brk, e_cnt, e_never, e_ret, e_retN, e_exp, e_if, e_set, e_aug, aug_int, augK_int, e_par, par_2, e_asg, e_sub, subN_ow, subK_ow, e_for, for_nil, for_cons, tg_nm, tg_tp, tgs_nil, tgs_cons, e_rng1, e_rng2, rngL1_1, rngL2_2, rngK1_int, rngK2_int, e_iLst, e_iTup, walkL_lst, walkT_tup, e_lc, lc_nil, lc_cons, wipeE_nil, wipeE_cons, clsD_int_int, clsD_int_bool, clsD_int_str, clsD_int_tuple, clsD_str_str, clsD_str_tuple, clsD_str_int, clsD_tup_tuple, clsD_tup_str, clsD_tup_int, clsD_non_tuple, clsD_non_str, clsD_non_int, clsD_bl_bool, clsD_bl_int, clsD_bl_tuple, atI_0, atI_1, atI_2, atI_3, atI_4, ixN5_0, ixN5_1, ixN5_2, ixN5_3, ixN5_4, List.map_cons, List.map_nil, List.cons_append, List.nil_append, List.append_nil, List.replicate, List.getElem?_cons_zero, List.getElem?_cons_succ, List.getD_cons_zero, List.getD_cons_succ, List.set_cons_zero, List.set_cons_succ, Option.bind_some, Option.bind_none, List.length_cons, List.length_nil, if_true, if_false, Bool.false_eq_true, Bool.not_true, Bool.not_false, Bool.not_eq_true', decide_eq_true_eq, decide_eq_false_iff_not, and_true, true_and, List.mem_cons, List.not_mem_nil, or_false, forall_eq, false_imp_iff, implies_true, List.nodup_nil, List.nodup_cons, not_false_eq_true, List.isEmpty_cons, List.isEmpty_nil, List.tail_cons, List.tail_nil])
/-! ### the rounds of a list of jobs -/
theorem JsOk.all {js : List Job} {rs : List Rd} (h : JsOk js) (hn : (js.map (·.nm)).Nodup) (hr : Rnds js (frOf js) rs) : (∀ r ∈ rs, RdOk (js.map toQ) 1 20000 600000 r) ∧ rs.Pairwise (fun r s => ∀ p ∈ r.tms, ∀ q ∈ s.tms, p.2 ≤ q.1 ∨ q.2 ≤ p.1) ∧ (rs.map (·.tms.length)).sum ≤ 8192 := by
  have hj : ∀ j ∈ js, 0 ≤ j.c ∧ j.c < j.d ∧ 0 < j.w := fun j hj => let ⟨a, b, c, d, _⟩ := h.job j hj; ⟨a, b, d⟩
  have hs : (js.map toQ).map (toJ 1) = js := by have := toJ_map js; rw [scl_int] at this; exact this
  have hq : JqOk 1 (js.map toQ) := by
    refine ⟨by decide, by rw [List.map_map]; exact hn, fun q hq => ?_, fun q hq => ?_⟩
    · obtain ⟨j, hj', rfl⟩ := List.mem_map.mp hq
      obtain ⟨a, b, c⟩ := hj j hj'
      exact ⟨a, b, by show (0 : Rat) < (j.w : Rat); exact_mod_cast c⟩
    · obtain ⟨j, hj', rfl⟩ := List.mem_map.mp hq
      show ((j.w : Rat)).den ∣ 1
      rw [Rat.den_intCast]
      exact Nat.dvd_refl _
  have hw : wtot js ≤ 600000 := by
    have : ∀ l : List Job, (∀ j ∈ l, j.w ≤ 40000) → wtot l ≤ 40000 * l.length := by
      intro l
      induction l with
      | nil => intro _; simp [wtot]
      | cons j l ih =>
        intro hl
        have h1 := ih fun x hx => hl x (by simp [hx])
        have h2 := hl j (by simp)
        unfold wtot at *
        rw [List.map_cons, List.sum_cons, List.length_cons]
        omega
    have h1 := this js fun j hj => (h.job j hj).2.2.2.2.1
    have := h.few
    omega
  have hM : ∀ p ∈ frOf js, p.2 ≤ 20000 := fun p hp => by
    by_cases hne : js = []
    · subst hne; cases hp
    · obtain ⟨lo, hi, e, _, _, ⟨y, hy, e2⟩⟩ := frOf_ne hne
      rw [e, List.mem_singleton] at hp
      subst hp
      have := (h.job y hy).2.2.1
      show hi ≤ 20000
      omega
  obtain ⟨a1, a2, a3⟩ := hr.all (qs := js.map toQ) (S := 1) (M := 20000) (W := 600000) hs.symm hq (frOf_ok hj) (by decide) hM hw
  refine ⟨fun r hr => (a1 r hr).1, a2, ?_⟩
  have h1 : (frOf js).length ≤ 1 := by cases js <;> simp [frOf]
  have hf := h.few
  have h2 : (2 : Nat) ^ js.length ≤ 2 ^ 13 := Nat.pow_le_pow_right (by omega) (by omega)
  have h3 : (frOf js).length * 2 ^ js.length ≤ 1 * 2 ^ 13 := Nat.mul_le_mul h1 h2
  have : (2 : Nat) ^ 13 = 8192 := by decide
  omega
theorem spQ_lt {r s : Rd} (hr : 0 < r.N) (hs : 0 < s.N) : spQ s < spQ r ↔ ¬ fstr s r := by
  unfold spQ fstr
  rw [← less_pq hs hr]
  omega
def B__law_covered_1 : TSp :=
  (sIf (tNot (tTru (tCall φ__law_less [false, false] [] (tACons (tNm 4) (tAOne (tNm 2)))))) (sSet 3 (tBin (opB .Add) (tNm 3) (tCb (cD1 fSum) (tAOne (tLc' (iAny (tNm 6)) (.tp [.nm 8, .nm 9]) tYes' (tCb (cD2 fMax) (tACons (tK (.int 0)) (tAOne (tBin (opB .Sub) (tCb (cD2 fMin) (tACons (tNmC 9) (tAOne (tIx (tNm 1) (tK (.int 2)))))) (tCb (cD2 fMax) (tACons (tNmC 8) (tAOne (tIx (tNm 1) (tK (.int 1)))))))))) [8, 9]))))) sNil)
def B__law_covered_2 : TSp :=
  (sSeq (sFor (iAny (tNm 0)) (.tp [.nm 4, .nm 5, .nm 6]) B__law_covered_1)
    (sRet (tNm 3)))
def B__law_covered_3 : TSp :=
  (sSeq (sSet 3 (tK (.int 0)))
    B__law_covered_2)
def T__law_covered : TSp :=
  (sSeq (sSet 2 (tIx (tLc' (iAny (tNm 0)) (.nm 7) (tCmpT .In (tIx (tNm 1) (tK (.int 0))) (tIx (tNmC 7) (tK (.int 1)))) (tIx (tNmC 7) (tK (.int 0))) [7]) (tK (.int 0))))
    B__law_covered_3)
def φ__law_covered : Fn := fun cs R0 _ => ∃ (js : List Job) (rs : List Rd) (j : Job), cs = [Fz (.lst (rs.map rndD)), Fz (jbD j)] ∧ JsOk js ∧ (js.map (·.nm)).Nodup ∧ Rnds js (frOf js) rs ∧ j ∈ js ∧ R0 (Fz (.int (j.d - j.c))) [.no, .no]
theorem sp__law_covered (cs : List Ct) (R0 : Ct → List Ct → Prop) (E0 : Exn → List Ct → Prop) : φ__law_covered cs R0 E0 → fnOf 8 [] T__law_covered cs R0 E0 := by
  rintro ⟨js, rs, j, rfl, hok, hn, hrs, hj, h⟩
  rw [fnOf_eq]
  refine ⟨noOw _ rfl, ?_⟩
  have hf := hok.few
  have hlen := hrs.len
  have hap := hrs.apart
  have hjb : ∀ j ∈ js, 0 ≤ j.c ∧ j.c < j.d ∧ 0 < j.w := fun j hj => let ⟨a, b, c, d, _⟩ := hok.job j hj; ⟨a, b, d⟩
  have hps := hrs.pos (frOf_ok hjb)
  obtain ⟨g1, g2, g3⟩ := hok.all hn hrs
  obtain ⟨r, hr, ef, hin⟩ := hrs.for hj
  have ejb : jbD j = .tup [.str j.nm, .int j.c, .int j.d, .int j.w] := rfl
  rw [ejb]
  unfold T__law_covered
  walk_at "pm"
  have bsp : ∀ s ∈ rs, Bq 20 (spQ s) := fun s hs => by
    have R := g1 s hs
    have h1 := R.L0
    have h2 := R.LW
    have h3 := R.N0
    have h4 := R.NM
    have e2 : (2 : Nat) ^ 20 = 1048576 := by decide
    exact Bq.div (by unfold Bs; omega) (by unfold Bs; omega) (by omega)
  have hfl : (rs.flatMap fun r => if decide (j.nm ∈ r.nms) = true then [rq (spQ r)] else []) = [rq (spQ r)] := by
    have : ∀ l : List Rd, (l.flatMap fun r => if decide (j.nm ∈ r.nms) = true then [rq (spQ r)] else []) = (l.filter fun r => decide (j.nm ∈ r.nms)).map fun r => rq (spQ r) := by
      intro l
      induction l with
      | nil => rfl
      | cons r l ih =>
        rw [List.flatMap_cons, List.filter_cons, ih]
        split <;> rfl
    rw [this, rdFor_filter hap, ef]
    rfl
  refine lc_pure (f := rndD) (fun r : Rd => if decide (j.nm ∈ r.nms) = true then [rq (spQ r)] else []) _ (fun _ => True) ?_ (fun r => by split <;> simp) rs [] (fun _ _ => trivial) (line_small (by rw [List.length_nil]; omega)) ?_
  · intro s acc K' _ hacc hK
    rw [rndD_eq]
    walk_at "pm"
    by_cases h1 : j.nm ∈ s.nms
    · rw [if_pos (decide_eq_true h1)] at hK
      rw [if_pos h1]
      exact ⟨hacc, hK⟩
    · rw [if_neg (by simpa using h1), List.append_nil] at hK
      rw [if_neg h1]
      exact hK
  rw [hfl]
  walk_at "pm"
  unfold B__law_covered_3
  walk_at "pm"
  unfold B__law_covered_2
  walk_at "pm"
  refine for_ind (f := rndD) (fun r2 ρ => ∃ (pre : List Rd) (c4 c5 c6 : Ct), ρ = [Fz (.lst (rs.map rndD)), Fz (.tup [.str j.nm, .int j.c, .int j.d, .int j.w]), Fz (rq (spQ r)), Fz (.int (covS pre (fun s => !decide (spQ s < spQ r)) j.c j.d)), c4, c5, c6, .no, .no, .no] ∧ rs = pre ++ r2) ?_ ?_ rs _ ⟨[], _, _, _, rfl, rfl⟩
  · rintro s r2 ρ K ⟨pre, c4, c5, c6, rfl, hpre⟩ hK
    have hs : s ∈ rs := by rw [hpre]; simp
    have fin := fun c4 c5 c6 => hK [Fz (.lst (rs.map rndD)), Fz (.tup [.str j.nm, .int j.c, .int j.d, .int j.w]), Fz (rq (spQ r)), Fz (.int (covS (pre ++ [s]) (fun s => !decide (spQ s < spQ r)) j.c j.d)), c4, c5, c6, .no, .no, .no] ⟨pre ++ [s], c4, c5, c6, rfl, by rw [hpre, List.append_assoc]; rfl⟩
    rw [covS_snoc] at fin
    rw [rndD_eq]
    walk_at "pm"
    unfold B__law_covered_1
    walk_at "pm"
    refine less_q ⟨20, 20, _, _, rfl, bsp s hs, bsp r hr, by decide, ?_⟩
    walk_at "pm"
    have htl : s.tms.length ≤ 8192 := by
      have : ∀ l : List Rd, s ∈ l → s.tms.length ≤ (l.map (·.tms.length)).sum := by
        intro l
        induction l with
        | nil => intro z; cases z
        | cons x l ih =>
          intro z
          rw [List.map_cons, List.sum_cons]
          rcases List.mem_cons.mp z with rfl | z
          · omega
          · have := ih z; omega
      have := this rs hs
      omega
    by_cases h1 : spQ s < spQ r
    · rw [decide_eq_true h1] at fin
      rw [if_neg (by decide), Int.add_zero] at fin
      try rw [if_neg (by simp [h1])]
      exact fin _ _ _
    · rw [decide_eq_false h1] at fin
      rw [if_pos (by decide)] at fin
      rw [if_pos (by simp [h1])]
      refine lc_pure (f := ivD) (fun p : Iv => [D.int (max 0 (min p.2 j.d - max p.1 j.c))]) _ (fun _ => True) ?_ (fun r => by simp) s.tms [] (fun _ _ => trivial) (line_small (by rw [List.length_nil]; omega)) ?_
      · intro p acc K' _ hacc hK'
        have ep : ivD p = .tup [.int p.1, .int p.2] := rfl
        rw [ep]
        walk_at "pm"
        rw [show (if j.d < p.2 then j.d else p.2) = min p.2 j.d by split <;> omega, show (if j.c > p.1 then j.c else p.1) = max p.1 j.c by split <;> omega, show (if min p.2 j.d - max p.1 j.c > 0 then min p.2 j.d - max p.1 j.c else 0) = max 0 (min p.2 j.d - max p.1 j.c) by split <;> omega]
        exact ⟨hacc, hK'⟩
      rw [flat1, List.nil_append]
      walk_at "pm"
      have ei : ∀ l : List Iv, ints? (l.map fun p => D.int (max 0 (min p.2 j.d - max p.1 j.c))) = some (l.map fun p => max 0 (min p.2 j.d - max p.1 j.c)) := by
        intro l
        induction l with
        | nil => rfl
        | cons p l ih =>
          rw [List.map_cons]
          unfold ints?
          rw [ih]; rfl
      rw [ei]
      walk_at "pm"
      rw [← ln_sum]
      exact fin _ _ _
  · rintro ρ ⟨pre, c4, c5, c6, rfl, hpre⟩
    rw [List.append_nil] at hpre
    subst hpre
    walk_at "pm"
    rw [hrs.cov hjb hn hj hr hin fun s hs z => (spQ_lt (hps r hr).2 (hps s hs).2).mp (by simpa using z)]
    exact h
theorem eqD_strL : ∀ l : List Str, eqD (.lst (l.map .str)) (.lst (l.map .str)) = true
  | [] => by simp only [eqD, D.py, D.pys, PyData.eqv, PyData.eqvAll, List.map_nil]
  | x :: l => by
    have ih := eqD_strL l
    simp only [eqD, D.py, D.pys, List.map_cons, PyData.eqv, PyData.eqvAll] at ih ⊢
    simp [ih]
theorem lc_at {g : Tg} {t : TTp} {Te : TEp} {own : List Nat} {Ee : Exn → En → Prop} {Rr : R → En → Prop} {l m : List D} {acc : List D} {ρ : En} (e : l = m) : lcK g t Te own Ee Rr l acc ρ = lcK g t Te own Ee Rr m acc ρ := by rw [e]
def B_law_1 : TSp :=
  (sIf (tOr (tCmpT .NotEq (tBin (opB .Mult) (tIx (tNm 7) (tK (.int 0))) (tNm 10)) (tBin (opB .Mult) (tNm 11) (tIx (tNm 7) (tK (.int 1))))) (tCmpT .LtE (tNm 10) (tK (.int 0)))) (sRet (tK (.bl false))) sNil)
def B_law_2 : TSp :=
  (sSeq (sSet 11 (tCb (cD1 fSum) (tAOne (tLc' (iAny (tNm 2)) (.nm 14) (tCmpT .In (tIx (tNmC 14) (tK (.int 0))) (tNm 8)) (tIx (tNmC 14) (tK (.int 3))) [14]))))
    B_law_1)
def B_law_3 : TSp :=
  (sSeq (sSet 10 (tCb (cD1 fSum) (tAOne (tLc' (iAny (tNm 9)) (.tp [.nm 12, .nm 13]) tYes' (tBin (opB .Sub) (tNmC 13) (tNmC 12)) [12, 13]))))
    B_law_2)
def B_law_4 : TSp :=
  (sSeq (sExp (tMu 5 fExt (tAOne (tCb cList (tAOne (tNm 9))))))
    B_law_3)
def B_law_5 : TSp :=
  (sSeq (sExp (tMu 4 fExt (tAOne (tCb cList (tAOne (tNm 8))))))
    B_law_4)
def B_law_6 : TSp :=
  (sSeq (sIf (tAnd (tCmpT .Gt (tNm 6) (tK (.int 0))) (tTru (tCall φ__law_less [false, false] [] (tACons (tIx (tIx (tNm 3) (tBin (opB .Sub) (tNm 6) (tK (.int 1)))) (tK (.int 0))) (tAOne (tNm 7)))))) (sRet (tK (.bl false))) sNil)
    B_law_5)
def B_law_7 : TSp :=
  (sSeq (sAsg (.tp [.nm 7, .nm 8, .nm 9]) (tIx (tNm 3) (tNm 6)))
    B_law_6)
def B_law_8 : TSp :=
  (sIf (tCmpT .Gt (tIx (tIx (tNm 5) (tNm 6)) (tK (.int 1))) (tIx (tIx (tNm 5) (tBin (opB .Add) (tNm 6) (tK (.int 1)))) (tK (.int 0)))) (sRet (tK (.bl false))) sNil)
def B_law_9 : TSp :=
  (sSeq (sFor (iRng1 (tAOne (tBin (opB .Sub) (tCb (cD1 fLen) (tAOne (tNm 5))) (tK (.int 1))))) (.nm 6) B_law_8)
    (sRet (tCmp .Eq (tCb (cD1 fLen) (tAOne (tLc' (iAny (tNm 2)) (.nm 14) (tCmpT .NotEq (tCall φ__law_covered [false, false] [] (tACons (tNm 3) (tAOne (tNmC 14)))) (tBin (opB .Sub) (tIx (tNmC 14) (tK (.int 2))) (tIx (tNmC 14) (tK (.int 1))))) (tNmC 14) [14]))) (tK (.int 0)))))
def B_law_10 : TSp :=
  (sSeq (sSet 5 (tCb cSortA (tAOne (tNm 5))))
    B_law_9)
def B_law_11 : TSp :=
  (sSeq (sIf (tCmpT .NotEq (tCb cSortA (tAOne (tNm 4))) (tCb cSortA (tAOne (tLc' (iAny (tNm 2)) (.nm 14) tYes' (tIx (tNmC 14) (tK (.int 0))) [14])))) (sRet (tK (.bl false))) sNil)
    B_law_10)
def B_law_12 : TSp :=
  (sSeq (sFor (iRng1 (tAOne (tCb (cD1 fLen) (tAOne (tNm 3))))) (.nm 6) B_law_7)
    B_law_11)
def B_law_13 : TSp :=
  (sSeq (sSet 5 (tLst tANil))
    B_law_12)
def B_law_14 : TSp :=
  (sSeq (sSet 4 (tLst tANil))
    B_law_13)
def B_law_15 : TSp :=
  (sSeq (sSet 3 (tCall φ_rounds [false] [] (tAOne (tNm 2))))
    B_law_14)
def B_law_16 : TSp :=
  (sSeq (sSet 2 (tCall φ__law_jobs [true, false] [] (tACons (tNm 1) (tAOne (tK (.int 8))))))
    B_law_15)
def T_law : TSp :=
  (sSeq (sSet 1 (tCall φ__law_pool [false] [] (tAOne (tNm 0))))
    B_law_16)
abbrev l11 (ns : List Int) (c1 : Ct) (js : List Job) (rs : List Rd) (nms : List Str) (tms : List Iv) (c6 c7 c8 c9 c10 c11 : Ct) : En := [Fz (.scr ns), c1, Fz (.tup (js.map jbD)), Wl (rs.map rndD), Wl (nms.map .str), Wl (tms.map ivD), c6, c7, c8, c9, c10, c11, .no, .no, .no]
theorem sp_law (cs : List Ct) (R0 : Ct → List Ct → Prop) (E0 : Exn → List Ct → Prop) : fnLaw cs R0 E0 → fnOf 14 [] T_law cs R0 E0 := by
  rintro ⟨ns, rfl, hl, _, h⟩
  rw [fnOf_eq]
  refine ⟨noOw _ rfl, ?_⟩
  unfold T_law
  walk_at "pm"
  refine ⟨ns, rfl, hl, fun p hp => ?_⟩
  unfold B_law_16
  walk_at "pm"
  refine ⟨10000, 8, p, rfl, by omega, hp.mono (by decide), fun js p2 hjs hjl hp2 => ?_⟩
  have hok := hjs.js (by omega)
  have hn := hjs.nd
  have hf := hok.few
  have hjb : ∀ j ∈ js, 0 ≤ j.c ∧ j.c < j.d ∧ 0 < j.w := fun j hj => let ⟨a, b, c, d, _⟩ := hok.job j hj; ⟨a, b, d⟩
  unfold B_law_15
  walk_at "pm"
  refine ⟨js, .inl rfl, hok, fun rs hrs => ?_⟩
  have hlen := hrs.len
  have hap := hrs.apart
  have hfl := hrs.fall (frOf_ok hjb)
  have hps := hrs.pos (frOf_ok hjb)
  obtain ⟨g1, g2, g3⟩ := hok.all hn hrs
  obtain ⟨i1, i2⟩ := hrs.is hn
  have hsz := hrs.sz _ (Nat.le_refl _)
  unfold B_law_14
  walk_at "pm"
  unfold B_law_13
  walk_at "pm"
  unfold B_law_12
  walk_at "pm"
  rw [List.length_map, Int.toNat_natCast]
  refine ⟨by omega, ?_⟩
  have hnl : (rs.flatMap (·.nms)).length ≤ 13 := by rw [i2.length_eq, List.length_map]; omega
  have htl : (rs.flatMap (·.tms)).length ≤ 8192 := by rw [List.length_flatMap]; exact g3
  have tk : ∀ k, ((rs.take k).flatMap (·.nms)).length ≤ 13 ∧ ((rs.take k).flatMap (·.tms)).length ≤ 8192 := fun k => by
    have e := List.take_append_drop k rs
    have h1 := hnl
    have h2 := htl
    rw [← e, List.flatMap_append, List.length_append] at h1 h2
    omega
  refine for_rng (lo := 0) (n := rs.length) (fun k ρ => ∃ (c6 c7 c8 c9 c10 c11 : Ct), ρ = l11 ns (Wl p2.d) js rs ((rs.take k).flatMap (·.nms)) ((rs.take k).flatMap (·.tms)) c6 c7 c8 c9 c10 c11) ⟨.no, .no, .no, .no, .no, .no, rfl⟩ ?_ ?_
  · rintro k ρ K hk ⟨c6, c7, c8, c9, c10, c11, rfl⟩ hK
    have hr : rs[k] ∈ rs := List.getElem_mem hk
    have etk : rs.take (k + 1) = rs.take k ++ [rs[k]] := by rw [List.take_add_one, List.getElem?_eq_getElem hk]; rfl
    have fin := fun c6 c7 c8 c9 c10 c11 => hK (l11 ns (Wl p2.d) js rs ((rs.take (k + 1)).flatMap (·.nms)) ((rs.take (k + 1)).flatMap (·.tms)) c6 c7 c8 c9 c10 c11) ⟨c6, c7, c8, c9, c10, c11, rfl⟩
    have ht1 := tk (k + 1)
    rw [etk] at ht1
    rw [etk] at fin
    rw [List.flatMap_append, List.length_append, List.flatMap_append, List.length_append] at ht1
    simp only [List.flatMap_cons, List.flatMap_nil, List.append_nil] at ht1
    have fin2 : ∀ c6 c7 c8 c9 c10 c11, K (l11 ns (Wl p2.d) js rs ((rs.take k).flatMap (·.nms) ++ rs[k].nms) ((rs.take k).flatMap (·.tms) ++ rs[k].tms) c6 c7 c8 c9 c10 c11) := fun c6 c7 c8 c9 c10 c11 => by
      have := fin c6 c7 c8 c9 c10 c11
      rw [List.flatMap_append, List.flatMap_append] at this
      simpa using this
    generalize (rs.take k).flatMap (·.nms) = nm at *
    generalize (rs.take k).flatMap (·.tms) = tm at *
    have eat : atI (rs.map rndD) ((0 : Int) + (k : Nat)) = some (rndD rs[k]) := by
      have := atI_nat (xs := rs.map rndD) (j := k) (v := rndD rs[k]) (by rw [List.getElem?_map, List.getElem?_eq_getElem hk]; rfl)
      rw [Int.zero_add]; exact this
    have hlt : ∀ h0 : 0 < k, ¬ spQ (rs[k - 1]'(by omega)) < spQ rs[k] := fun h0 => by
      have f := List.pairwise_iff_getElem.mp hfl (k - 1) k (by omega) hk (by omega)
      have e1 := (hps rs[k] hr).2
      have e2 := (hps (rs[k - 1]'(by omega)) (List.getElem_mem (by omega))).2
      intro z
      exact (spQ_lt e1 e2).mp z f
    have bsp : ∀ s ∈ rs, Bq 20 (spQ s) := fun s hs => by
      have R := g1 s hs
      have h1 := R.L0
      have h2 := R.LW
      have h3 := R.N0
      have h4 := R.NM
      have e2 : (2 : Nat) ^ 20 = 1048576 := by decide
      exact Bq.div (by unfold Bs; omega) (by unfold Bs; omega) (by omega)
    have hnR := (i1 rs[k] hr).n
    have hlR := (i1 rs[k] hr).l
    have R := g1 rs[k] hr
    have eprev : ∀ h0 : 0 < k, atI (rs.map rndD) ((0 : Int) + (k : Nat) - 1) = some (rndD (rs[k - 1]'(by omega))) := fun h0 => by
      have := atI_nat (xs := rs.map rndD) (j := k - 1) (v := rndD (rs[k - 1]'(by omega))) (by rw [List.getElem?_map, List.getElem?_eq_getElem (by omega)]; rfl)
      rw [show (((k - 1 : Nat)) : Int) = (0 : Int) + (k : Nat) - 1 by omega] at this
      exact this
    have bsk := bsp rs[k] hr
    have bsk1 : ∀ h0 : 0 < k, Bq 20 (spQ (rs[k - 1]'(by omega))) := fun h0 => bsp _ (List.getElem_mem _)
    generalize hrk : rs[k] = r at *
    unfold l11
    walk_at "pm"
    unfold B_law_7
    walk_at "pm"
    rw [eat, rndD_eq]
    walk_at "pm"
    -- behind the test of the speeds
    have rest : ∀ c6, B_law_5 [Fz (.scr ns), Wl p2.d, Fz (.tup (js.map jbD)), Wl (rs.map rndD), Wl (nm.map .str), Wl (tm.map ivD), c6, Fz (rq (spQ r)), Fz (.tup (r.nms.map .str)), Fz (.tup (r.tms.map ivD)), c10, c11, .no, .no, .no] (((fnE [Fz (.scr ns)] R0 E0).sq B_law_11).lp K) := by
      intro c6
      unfold B_law_5
      walk_at "pm"
      refine ⟨by rw [List.length_map, List.length_map]; exact line_small (by omega), ?_⟩
      unfold B_law_4
      walk_at "pm"
      refine ⟨by rw [List.length_map, List.length_map]; exact line_small (by omega), ?_⟩
      unfold B_law_3
      walk_at "pm"
      refine lc_pure (f := ivD) (fun p : Iv => [D.int (p.2 - p.1)]) _ (fun _ => True) ?_ (fun r => by simp) r.tms [] (fun _ _ => trivial) (line_small (by rw [List.length_nil]; omega)) ?_
      · intro p acc K' _ hacc hK'
        have ep : ivD p = .tup [.int p.1, .int p.2] := rfl
        rw [ep]
        walk_at "pm"
        exact ⟨hacc, hK'⟩
      rw [List.nil_append]
      walk_at "pm"
      rw [ints_len]
      walk_at "pm"
      rw [hnR]
      unfold B_law_2
      walk_at "pm"
      refine lc_pure (f := jbD) (fun j : Job => if decide (j.nm ∈ r.nms) = true then [D.int j.w] else []) _ (fun _ => True) ?_ (fun r => by split <;> simp) js [] (fun _ _ => trivial) (line_small (by rw [List.length_nil]; omega)) ?_
      · intro j acc K' _ hacc hK'
        have er : jbD j = .tup [.str j.nm, .int j.c, .int j.d, .int j.w] := rfl
        rw [er]
        walk_at "pm"
        by_cases h1 : j.nm ∈ r.nms
        · rw [if_pos (decide_eq_true h1)] at hK'
          rw [if_pos h1]
          exact ⟨hacc, hK'⟩
        · rw [if_neg (by simpa using h1), List.append_nil] at hK'
          rw [if_neg h1]
          exact hK'
      have ew : ∀ l : List Job, ints? (l.flatMap fun j => if j.nm ∈ r.nms then [D.int j.w] else []) = some ((l.filter fun j => decide (j.nm ∈ r.nms)).map (·.w)) := by
        intro l
        induction l with
        | nil => rfl
        | cons j l ih =>
          rw [List.flatMap_cons, List.filter_cons]
          by_cases h1 : j.nm ∈ r.nms
          · rw [if_pos h1, if_pos (decide_eq_true h1)]
            show (ints? (l.flatMap _)).map (j.w :: ·) = _
            rw [ih]; rfl
          · rw [if_neg h1, if_neg (by simpa using h1)]
            exact ih
      rw [List.nil_append]
      walk_at "pm"
      rw [ew]
      walk_at "pm"
      have hlR' : ((js.filter fun j => decide (j.nm ∈ r.nms)).map (·.w)).sum = r.L := hlR
      rw [hlR']
      unfold B_law_1
      walk_at "pm"
      have bN : Bs 20 r.N := by
        have h3 := R.N0
        have h4 := R.NM
        have e2 : (2 : Nat) ^ 20 = 1048576 := by decide
        unfold Bs; omega
      have bL : Bs 20 r.L := by
        have h3 := R.L0
        have h4 := R.LW
        have e2 : (2 : Nat) ^ 20 = 1048576 := by decide
        unfold Bs; omega
      have hN0 : r.N ≠ 0 := by have := R.N0; omega
      have hEq : (spQ r).num * r.N = r.L * ((spQ r).den : Int) := by
        have h1 := num_eq (spQ r)
        have h2 : spQ r * (r.N : Rat) = (r.L : Rat) := by
          unfold spQ
          have : ((r.N : Int) : Rat) ≠ 0 := by exact_mod_cast hN0
          exact Rat.div_mul_cancel this
        have h3 : (((spQ r).num * r.N : Int) : Rat) = ((r.L * ((spQ r).den : Int) : Int) : Rat) := by
          rw [Rat.intCast_mul, Rat.intCast_mul, h1]
          rw [← h2]
          grind
        exact_mod_cast h3
      refine ⟨Bs.mulOk bsk.1 bN (by decide), Bs.mulOk bL bsk.2 (by decide), ?_⟩
      rw [if_neg (fun z => z hEq), if_neg (by have := R.N0; omega)]
      have f := fin2 c6 (Fz (rq (spQ r))) (Fz (.tup (r.nms.map .str))) (Fz (.tup (r.tms.map ivD))) (Fz (.int r.N)) (Fz (.int r.L))
      unfold l11 at f
      rw [List.map_append, List.map_append] at f
      exact f
    unfold B_law_6
    walk_at "pm"
    by_cases h0 : 0 < k
    · rw [if_pos (by omega), eprev h0, rndD_eq]
      walk_at "pm"
      refine less_q ⟨20, 20, _, _, rfl, bsk1 h0, bsk, by decide, ?_⟩
      walk_at "pm"
      rw [if_neg (hlt h0)]
      exact rest _
    · rw [if_neg (by omega)]
      exact rest _
  · rintro ρ ⟨c6, c7, c8, c9, c10, c11, rfl⟩
    rw [List.take_length]
    generalize hNM : rs.flatMap (·.nms) = NM at *
    have hTM : (rs.flatMap (·.tms)).Pairwise (fun p q => p.2 ≤ q.1 ∨ q.2 ≤ p.1) ∧ ∀ p ∈ rs.flatMap (·.tms), p.1 < p.2 := by
      constructor
      · have : ∀ l : List Rd, (∀ r ∈ l, FrOk r.tms) → l.Pairwise (fun r s => ∀ p ∈ r.tms, ∀ q ∈ s.tms, p.2 ≤ q.1 ∨ q.2 ≤ p.1) → (l.flatMap (·.tms)).Pairwise (fun p q => p.2 ≤ q.1 ∨ q.2 ≤ p.1) := by
          intro l
          induction l with
          | nil => intro _ _; exact .nil
          | cons r l ih =>
            intro h1 h2
            rw [List.pairwise_cons] at h2
            rw [List.flatMap_cons, List.pairwise_append]
            refine ⟨(h1 r (by simp)).ord.imp fun z => .inl z, ih (fun s hs => h1 s (by simp [hs])) h2.2, fun p hp q hq => ?_⟩
            obtain ⟨s, hs, hq⟩ := List.mem_flatMap.mp hq
            exact h2.1 s hs p hp q hq
        exact this rs (fun r hr => (g1 r hr).dens.fo) g2
      · intro p hp
        obtain ⟨s, hs, hp⟩ := List.mem_flatMap.mp hp
        exact ((g1 s hs).dens.fo.pos p hp).2
    generalize hTMe : rs.flatMap (·.tms) = TM at *
    unfold l11
    unfold B_law_11
    walk_at "pm"
    rw [e_cSortA]
    walk_at "pm"
    rw [srtA_str]
    refine ⟨by omega, ?_⟩
    walk_at "pm"
    refine lc_pure (f := jbD) (fun j : Job => [D.str j.nm]) _ (fun _ => True) ?_ (fun r => by simp) js [] (fun _ _ => trivial) (line_small (by rw [List.length_nil]; omega)) ?_
    · intro j acc K' _ hacc hK'
      have er : jbD j = .tup [.str j.nm, .int j.c, .int j.d, .int j.w] := rfl
      rw [er]
      walk_at "pm"
      exact ⟨hacc, hK'⟩
    rw [flat1, List.nil_append, e_cSortA]
    walk_at "pm"
    have em : (js.map fun j => D.str j.nm) = (js.map (·.nm)).map .str := by rw [List.map_map]; rfl
    rw [em, srtA_str]
    refine ⟨by rw [List.length_map]; omega, ?_⟩
    rw [← srtT_perm_eq i2]
    walk_at "pm"
    have hsn : ∀ x ∈ NM, PyData.strOk x = true := fun x hx => by
      obtain ⟨j, hj, e⟩ := List.mem_map.mp (i2.mem_iff.mp hx)
      rw [← e]
      exact (hok.job j hj).2.2.2.2.2
    have sp : shp (.lst ((srtT NM).map .str)) := shp_strL fun x hx => hsn x ((srtT_perm NM).mem_iff.mp hx)
    rw [eqD_strL]
    refine ⟨sp, sp, ?_⟩
    rw [if_neg (by decide)]
    unfold B_law_10
    walk_at "pm"
    rw [e_cSortA]
    walk_at "pm"
    rw [srtA_prs]
    walk_at "pm"
    have hso : (srtP TM).Pairwise fun p q => p.2 ≤ q.1 := by
      refine spans_ok (fun p hp => hTM.2 p ((srtP_perm TM).mem_iff.mp hp)) (srtP_sorted TM) ?_
      exact ((srtP_perm TM).pairwise_iff (fun {x y} z => by omega)).mpr hTM.1
    have hsl : (srtP TM).length ≤ 8192 := by rw [(srtP_perm TM).length_eq]; exact htl
    generalize srtP TM = SP at *
    unfold B_law_9
    walk_at "pm"
    rw [List.length_map]
    refine ⟨by omega, ?_⟩
    rw [show ((SP.length : Int) - 1).toNat = SP.length - 1 by omega]
    refine for_rng (lo := 0) (n := SP.length - 1) (fun k ρ => ∃ (c6 : Ct), ρ = [Fz (.scr ns), Wl p2.d, Fz (.tup (js.map jbD)), Wl (rs.map rndD), Wl (NM.map .str), Wl (SP.map ivD), c6, c7, c8, c9, c10, c11, .no, .no, .no]) ⟨_, rfl⟩ ?_ ?_
    · rintro k ρ K hk ⟨c6, rfl⟩ hK
      have e1 : atI (SP.map ivD) ((0 : Int) + (k : Nat)) = some (ivD (SP[k]'(by omega))) := by
        have := atI_nat (xs := SP.map ivD) (j := k) (v := ivD (SP[k]'(by omega))) (by rw [List.getElem?_map, List.getElem?_eq_getElem (by omega)]; rfl)
        rw [Int.zero_add]; exact this
      have e2 : atI (SP.map ivD) ((0 : Int) + (k : Nat) + 1) = some (ivD (SP[k + 1]'(by omega))) := by
        have := atI_nat (xs := SP.map ivD) (j := k + 1) (v := ivD (SP[k + 1]'(by omega))) (by rw [List.getElem?_map, List.getElem?_eq_getElem (by omega)]; rfl)
        rw [show (((k + 1 : Nat)) : Int) = (0 : Int) + (k : Nat) + 1 by omega] at this
        exact this
      have hle := List.pairwise_iff_getElem.mp hso k (k + 1) (by omega) (by omega) (by omega)
      have ep : ∀ p : Iv, ivD p = .tup [.int p.1, .int p.2] := fun _ => rfl
      walk_at "pm"
      unfold B_law_8
      walk_at "pm"
      rw [e1, ep]
      walk_at "pm"
      rw [e2, ep]
      walk_at "pm"
      rw [if_neg (by omega)]
      exact hK _ ⟨_, rfl⟩
    · rintro ρ ⟨c6, rfl⟩
      walk_at "pm"
      have tail : ∀ (l : List Job) (EX : Exn → En → Prop) (RR : R → En → Prop), (∀ j ∈ l, j ∈ js) → l.length ≤ 13 → RR (.va (Wl [])) [Fz (.scr ns), Wl p2.d, Fz (.tup (js.map jbD)), Fz (.lst (rs.map rndD)), Wl (NM.map .str), Wl (SP.map ivD), c6, c7, c8, c9, c10, c11, .no, .no, .no] →
          lcK (.nm 14) (tCmpT .NotEq (tCall φ__law_covered [false, false] [] (tACons (tNm 3) (tAOne (tNmC 14)))) (tBin (opB .Sub) (tIx (tNmC 14) (tK (.int 2))) (tIx (tNmC 14) (tK (.int 1))))) (tNmC 14) [14] EX RR (l.map jbD) [] [Fz (.scr ns), Wl p2.d, Fz (.tup (js.map jbD)), Fz (.lst (rs.map rndD)), Wl (NM.map .str), Wl (SP.map ivD), c6, c7, c8, c9, c10, c11, .no, .no, .no] := by
        intro l EX RR hl hl13 hRR
        refine lc_pure (f := jbD) (fun j : Job => []) _ (fun j => j ∈ js) ?_ (fun r => by simp) l [] hl (line_small (by rw [List.length_nil]; omega)) ?_
        · intro j acc K' hj hacc hK'
          have er : jbD j = .tup [.str j.nm, .int j.c, .int j.d, .int j.w] := rfl
          rw [er]
          walk_at "pm"
          refine ⟨js, rs, j, rfl, hok, hn, hrs, hj, ?_⟩
          walk_at "pm"
          rw [List.append_nil] at hK'
          rw [if_neg (fun z => z trivial)]
          exact hK'
        · have e : ∀ l : List Job, (l.flatMap fun _ : Job => ([] : List D)) = [] := fun l => by
            induction l with
            | nil => rfl
            | cons x l ih => rw [List.flatMap_cons, ih]; rfl
          rw [e]; exact hRR
      have hall : ∀ j ∈ js, j ∈ js := fun j hj => hj
      have hsplit : js = [] ∨ ∃ j l, js = j :: l := by cases js with | nil => exact .inl rfl | cons j l => exact .inr ⟨j, l, rfl⟩
      rcases hsplit with e | ⟨j0, l0, e⟩
      · rw [e, List.map_nil]
        walk_at "pm"
        exact h _
      · have e2 : js.map jbD = jbD j0 :: l0.map jbD := by rw [e]; rfl
        have hj0 : j0 ∈ js := by rw [e]; simp
        have hl0 : ∀ j ∈ l0, j ∈ js := fun j hj => by rw [e]; simp [hj]
        have er : jbD j0 = .tup [.str j0.nm, .int j0.c, .int j0.d, .int j0.w] := rfl
        generalize hL : l0.map jbD = L at *
        have go : ∀ Z : List D, Z = js.map jbD → True := fun _ _ => trivial
        rw [lc_at e2]
        rw [er]
        walk_at "pm"
        refine ⟨js, rs, j0, rfl, hok, hn, hrs, hj0, ?_⟩
        walk_at "pm"
        rw [if_neg (fun z => z trivial)]
        rw [← hL]
        refine tail l0 _ _ hl0 (by rw [e, List.length_cons] at hf; omega) ?_
        walk_at "pm"
        exact h _
end Pm

namespace Pm
open PySem PySem.Spec PyProof.Rows L2
/-! ## the text -/
def topS (i : Nat) : Stmt := PySem.Challenge.pw_sparewatts_k11_speeds_of_rounds_fall.main.body.getD i (.Pass ⟨0, 0, 0, 0⟩)
abbrev s_ratio : Stmt := topS 2
theorem sc_ratio : FnScope ["top", "bottom", "common"] ["top", "bottom"] (defScope s_ratio) := ⟨rfl, rfl, rfl, by decide +kernel, rfl, by decide +kernel, by decide +kernel⟩
abbrev s_free_part : Stmt := topS 4
theorem sc_free_part : FnScope ["free", "begin", "end", "found", "start", "stop", "low", "high"] ["free", "begin", "end"] (defScope s_free_part) := ⟨rfl, rfl, rfl, by decide +kernel, rfl, by decide +kernel, by decide +kernel⟩
abbrev s_taken_away : Stmt := topS 5
theorem sc_taken_away : FnScope ["free", "begin", "end"] ["free", "begin", "end"] (defScope s_taken_away) := ⟨rfl, rfl, rfl, by decide +kernel, rfl, by decide +kernel, by decide +kernel⟩
abbrev s_Scan___init__ : Stmt := inClass (topS 6) 0
theorem sc_Scan___init__ : FnScope ["self", "jobs", "free", "name", "comes", "due", "work", "window"] ["self", "jobs", "free"] (defScope s_Scan___init__) := ⟨rfl, rfl, rfl, by decide +kernel, rfl, by decide +kernel, by decide +kernel⟩
abbrev s_Scan_load : Stmt := inClass (topS 6) 1
theorem sc_Scan_load : FnScope ["self", "a", "b", "first", "last", "name", "work"] ["self", "a", "b"] (defScope s_Scan_load) := ⟨rfl, rfl, rfl, by decide +kernel, rfl, by decide +kernel, by decide +kernel⟩
abbrev s_Scan_length : Stmt := inClass (topS 6) 2
theorem sc_Scan_length : FnScope ["self", "a", "b", "start", "stop"] ["self", "a", "b"] (defScope s_Scan_length) := ⟨rfl, rfl, rfl, by decide +kernel, rfl, by decide +kernel, by decide +kernel⟩
abbrev s_Scan_densest : Stmt := inClass (topS 6) 3
theorem sc_Scan_densest : FnScope ["self", "best", "a", "b", "load", "length", "row"] ["self"] (defScope s_Scan_densest) := ⟨rfl, rfl, rfl, by decide +kernel, rfl, by decide +kernel, by decide +kernel⟩
abbrev s_rounds_with : Stmt := topS 7
theorem sc_rounds_with : FnScope ["jobs", "scale", "waiting", "found", "free", "scan", "load", "length", "a", "b", "names", "name", "comes", "due", "work", "job", "first", "last"] ["jobs"] (defScope s_rounds_with) := ⟨rfl, rfl, rfl, by decide +kernel, rfl, by decide +kernel, by decide +kernel⟩
abbrev s_with_ratios : Stmt := topS 8
theorem sc_with_ratios : FnScope ["jobs", "name", "comes", "due", "work"] ["jobs"] (defScope s_with_ratios) := ⟨rfl, rfl, rfl, by decide +kernel, rfl, by decide +kernel, by decide +kernel⟩
abbrev s_rounds : Stmt := topS 9
theorem sc_rounds : FnScope ["jobs", "one"] ["jobs"] (defScope s_rounds) := ⟨rfl, rfl, rfl, by decide +kernel, rfl, by decide +kernel, by decide +kernel⟩
abbrev s__law_pool : Stmt := topS 11
theorem sc__law_pool : FnScope ["_law_script"] ["_law_script"] (defScope s__law_pool) := ⟨rfl, rfl, rfl, by decide +kernel, rfl, by decide +kernel, by decide +kernel⟩
abbrev s__law_draw : Stmt := topS 12
theorem sc__law_draw : FnScope ["_law_pool_here", "_law_many", "_law_found", "_law_cell", "_law_mixed"] ["_law_pool_here", "_law_many"] (defScope s__law_draw) := ⟨rfl, rfl, rfl, by decide +kernel, rfl, by decide +kernel, by decide +kernel⟩
abbrev s__law_less : Stmt := topS 13
theorem sc__law_less : FnScope ["_law_a", "_law_b"] ["_law_a", "_law_b"] (defScope s__law_less) := ⟨rfl, rfl, rfl, by decide +kernel, rfl, by decide +kernel, by decide +kernel⟩
abbrev s__law_name : Stmt := topS 14
theorem sc__law_name : FnScope ["_law_pool_here", "_law_index", "_law_letter", "_law_head"] ["_law_pool_here", "_law_index"] (defScope s__law_name) := ⟨rfl, rfl, rfl, by decide +kernel, rfl, by decide +kernel, by decide +kernel⟩
abbrev s__law_window : Stmt := topS 15
theorem sc__law_window : FnScope ["_law_pool_here", "_law_wide", "_law_comes"] ["_law_pool_here", "_law_wide"] (defScope s__law_window) := ⟨rfl, rfl, rfl, by decide +kernel, rfl, by decide +kernel, by decide +kernel⟩
abbrev s__law_jobs : Stmt := topS 16
theorem sc__law_jobs : FnScope ["_law_pool_here", "_law_most", "_law_wide", "_law_jobs_here", "_law_k", "_law_comes", "_law_due", "_law_work", "_law_other"] ["_law_pool_here", "_law_most"] (defScope s__law_jobs) := ⟨rfl, rfl, rfl, by decide +kernel, rfl, by decide +kernel, by decide +kernel⟩
abbrev s__law_covered : Stmt := topS 17
theorem sc__law_covered : FnScope ["_law_found", "_law_job", "_law_own", "_law_many", "_law_speed", "_law_names", "_law_times", "_law_row", "_law_start", "_law_stop"] ["_law_found", "_law_job"] (defScope s__law_covered) := ⟨rfl, rfl, rfl, by decide +kernel, rfl, by decide +kernel, by decide +kernel⟩
abbrev s_law : Stmt := topS 18
theorem sc_law : FnScope ["_law_script", "_law_pool_here", "_law_jobs_here", "_law_found", "_law_names", "_law_spans", "_law_k", "_law_speed", "_law_own", "_law_times", "_law_length", "_law_work", "_law_start", "_law_stop", "_law_job"] ["_law_script"] (defScope s_law) := ⟨rfl, rfl, rfl, by decide +kernel, rfl, by decide +kernel, by decide +kernel⟩
section
variable {P : Program} {w : World} {K : PySem.W.Frag} {cls : Str → Option Addr} {mg : Str → Option Value} {base : Heap}
set_option maxHeartbeats 4000000 in
theorem ok_ratio {f : Addr} {fd : FuncData} (F : FunD K "ratio" "ratio" (defArgs s_ratio) (defBody s_ratio) (defScope s_ratio) [(V.int 1)] [] f fd) (m_gcd : mg "gcd" = some (.builtin "math.gcd")) : FnOk P w K mg base CX0 (1) f fd ["top", "bottom"] (spOf K cls 2 φ_ratio) :=
  fn_okD (ps := ["top", "bottom"]) (k := 0) (m := 1) (nb := 3) (lock := []) (T := T_ratio) F sc_ratio rfl sp_ratio (fun c cdv A outer s H E hK hcls hlk hnb hr => by
    subst hK hcls
    have hu : (A.deeper (envOfC "ratio" (defScope s_ratio) s.heap.objs.size f cdv)).units + 65 < cLine := by have := hr.un; omega
    have B : ∀ i, decide (i < 3) = true → i < c.nb := fun i h => by rw [hnb]; exact of_decide_eq_true h
    have L : ∀ j, decide (j ∉ ([] : List Nat)) = true → j ∉ c.lock := fun j h => by rw [hlk]; exact of_decide_eq_true h
    have W : ∀ l : List Nat, decide (∀ i ∈ l, 3 ≤ i) = true → ∀ i ∈ l, c.nb ≤ i := fun l h => by rw [hnb]; exact of_decide_eq_true h
    have LL : ∀ l : List Nat, decide (∀ i ∈ l, i ∉ ([] : List Nat)) = true → ∀ i ∈ l, i ∉ c.lock := fun l h => by rw [hlk]; exact of_decide_eq_true h
    have nd := sc_ratio.nd
    exact (ss_cons (s_if (t_cmp hu (p_nm 1 (B 1 rfl)) p_int) (ss_one (s_par rfl nd (by decide) (a_cons (p_neg (p_nm 0 (B 0 rfl))) (a_one (p_neg (p_nm 1 (B 1 rfl))))) (L 0 rfl) (L 1 rfl))) ss_nil)
      (ss_cons (s_set 2 nd (p_cbf cr_gcd gcd_ok m_gcd (a_cons (p_nm 0 (B 0 rfl)) (a_one (p_nm 1 (B 1 rfl))))) (L 2 rfl))
      (ss_one (s_ret (p_tup (a_cons (p_op (p_nm 0 (B 0 rfl)) (p_nm 2 (B 2 rfl))) (a_one (p_op (p_nm 1 (B 1 rfl)) (p_nm 2 (B 2 rfl)))))))))))
set_option maxHeartbeats 4000000 in
theorem ok_free_part {f : Addr} {fd : FuncData} (F : Fun K "free_part" "free_part" s_free_part f fd) (m_max : mg "max" = none) (m_min : mg "min" = none) : FnOk P w K mg base CX0 (1) f fd ["free", "begin", "end"] (spOf K cls 3 φ_free_part) :=
  fn_ok (ps := ["free", "begin", "end"]) (k := 0) (m := 5) (nb := 8) (lock := []) (T := T_free_part) F sc_free_part rfl sp_free_part (fun c cdv A outer s H E hK hcls hlk hnb hr => by
    subst hK hcls
    have hu : (A.deeper (envOfC "free_part" (defScope s_free_part) s.heap.objs.size f cdv)).units + 65 < cLine := by have := hr.un; omega
    have B : ∀ i, decide (i < 8) = true → i < c.nb := fun i h => by rw [hnb]; exact of_decide_eq_true h
    have L : ∀ j, decide (j ∉ ([] : List Nat)) = true → j ∉ c.lock := fun j h => by rw [hlk]; exact of_decide_eq_true h
    have W : ∀ l : List Nat, decide (∀ i ∈ l, 8 ≤ i) = true → ∀ i ∈ l, c.nb ≤ i := fun l h => by rw [hnb]; exact of_decide_eq_true h
    have LL : ∀ l : List Nat, decide (∀ i ∈ l, i ∉ ([] : List Nat)) = true → ∀ i ∈ l, i ∉ c.lock := fun l h => by rw [hlk]; exact of_decide_eq_true h
    have nd := sc_free_part.nd
    exact (ss_cons (s_set 3 nd (p_lst a_nil) (L 3 rfl))
      (ss_cons (s_for PassesOwn.never rfl (i_any (p_nm 0 (B 0 rfl))) (g_tup rfl (g_cons (g_nm 4 nd (L 4 rfl)) (g_cons (g_nm 5 nd (L 5 rfl)) g_nil))) (ss_cons (s_par rfl nd (by decide) (a_cons (p_cb (call_max2 rfl) max_ok m_max (a_cons (p_nm 4 (B 4 rfl)) (a_one (p_nm 1 (B 1 rfl))))) (a_one (p_cb (call_min2 rfl) min_ok m_min (a_cons (p_nm 5 (B 5 rfl)) (a_one (p_nm 2 (B 2 rfl))))))) (L 6 rfl) (L 7 rfl))
      (ss_one (s_if (t_cmp hu (p_nm 6 (B 6 rfl)) (p_nm 7 (B 7 rfl))) (ss_one (s_exp (p_mu 3 PySem.F.plainAttrs_list PySem.F.slot_list_append PySem.F.type_list_append mt_append app_ok2 (a_one (p_tup (a_cons (p_nm 6 (B 6 rfl)) (a_one (p_nm 7 (B 7 rfl))))))))) ss_nil))))
      (ss_one (s_ret (p_nm 3 (B 3 rfl)))))))
set_option maxHeartbeats 4000000 in
theorem ok_taken_away {f : Addr} {fd : FuncData} (F : Fun K "taken_away" "taken_away" s_taken_away f fd) (D_free_part : DefOk P w K cls mg base "free_part" 3 [] 1 φ_free_part) : FnOk P w K mg base CX0 (2) f fd ["free", "begin", "end"] (spOf K cls 3 φ_taken_away) :=
  fn_ok (ps := ["free", "begin", "end"]) (k := 1) (m := 0) (nb := 3) (lock := []) (T := T_taken_away) F sc_taken_away rfl sp_taken_away (fun c cdv A outer s H E hK hcls hlk hnb hr => by
    subst hK hcls
    have hu : (A.deeper (envOfC "taken_away" (defScope s_taken_away) s.heap.objs.size f cdv)).units + 65 < cLine := by have := hr.un; omega
    have B : ∀ i, decide (i < 3) = true → i < c.nb := fun i h => by rw [hnb]; exact of_decide_eq_true h
    have L : ∀ j, decide (j ∉ ([] : List Nat)) = true → j ∉ c.lock := fun j h => by rw [hlk]; exact of_decide_eq_true h
    have W : ∀ l : List Nat, decide (∀ i ∈ l, 3 ≤ i) = true → ∀ i ∈ l, c.nb ≤ i := fun l h => by rw [hnb]; exact of_decide_eq_true h
    have LL : ∀ l : List Nat, decide (∀ i ∈ l, i ∉ ([] : List Nat)) = true → ∀ i ∈ l, i ∉ c.lock := fun l h => by rw [hlk]; exact of_decide_eq_true h
    have nd := sc_taken_away.nd
    exact (ss_one (s_ret (p_op (p_call [false, false, false] D_free_part hr (by omega) (a_cons (p_nm 0 (B 0 rfl)) (a_cons p_int (a_one (p_nm 1 (B 1 rfl)))))) (p_call [false, false, false] D_free_part hr (by omega) (a_cons (p_nm 0 (B 0 rfl)) (a_cons (p_nm 2 (B 2 rfl)) (a_one (p_ix (p_ix (p_nm 0 (B 0 rfl)) (p_neg p_int)) p_int)))))))))
set_option maxHeartbeats 4000000 in
theorem ok_Scan___init__ {f : Addr} {fd : FuncData} (F : Fun K "__init__" "Scan.__init__" s_Scan___init__ f fd) (A_Scan_free : AtOk K cls "Scan" "free") (A_Scan_rows : AtOk K cls "Scan" "rows") (D_free_part : DefOk P w K cls mg base "free_part" 3 [] 1 φ_free_part) : FnOk P w K mg base CX0 (2) f fd ["self", "jobs", "free"] (spOf K cls 3 φ_Scan___init__) :=
  fn_ok (ps := ["self", "jobs", "free"]) (k := 1) (m := 5) (nb := 8) (lock := [0]) (T := T_Scan___init__) F sc_Scan___init__ rfl sp_Scan___init__ (fun c cdv A outer s H E hK hcls hlk hnb hr => by
    subst hK hcls
    have hu : (A.deeper (envOfC "Scan.__init__" (defScope s_Scan___init__) s.heap.objs.size f cdv)).units + 65 < cLine := by have := hr.un; omega
    have B : ∀ i, decide (i < 8) = true → i < c.nb := fun i h => by rw [hnb]; exact of_decide_eq_true h
    have L : ∀ j, decide (j ∉ ([0] : List Nat)) = true → j ∉ c.lock := fun j h => by rw [hlk]; exact of_decide_eq_true h
    have W : ∀ l : List Nat, decide (∀ i ∈ l, 8 ≤ i) = true → ∀ i ∈ l, c.nb ≤ i := fun l h => by rw [hnb]; exact of_decide_eq_true h
    have LL : ∀ l : List Nat, decide (∀ i ∈ l, i ∉ ([0] : List Nat)) = true → ∀ i ∈ l, i ∉ c.lock := fun l h => by rw [hlk]; exact of_decide_eq_true h
    have nd := sc_Scan___init__.nd
    exact (ss_cons (s_fd 0 A_Scan_free (p_nm 2 (B 2 rfl)))
      (ss_cons (s_fd 0 A_Scan_rows (p_lst a_nil))
      (ss_one (s_for PassesOwn.never rfl (i_any (p_nm 1 (B 1 rfl))) (g_tup rfl (g_cons (g_nm 3 nd (L 3 rfl)) (g_cons (g_nm 4 nd (L 4 rfl)) (g_cons (g_nm 5 nd (L 5 rfl)) (g_cons (g_nm 6 nd (L 6 rfl)) g_nil))))) (ss_cons (s_set 7 nd (p_call [false, false, false] D_free_part hr (by omega) (a_cons (p_nm 2 (B 2 rfl)) (a_cons (p_nm 4 (B 4 rfl)) (a_one (p_nm 5 (B 5 rfl)))))) (L 7 rfl))
      (ss_one (s_exp (p_muR PySem.F.plainAttrs_list PySem.F.slot_list_append PySem.F.type_list_append mt_append app_ok2 (p_fd 0 A_Scan_rows (B 0 rfl)) (a_one (p_tup (a_cons (p_ix (p_ix (p_nm 7 (B 7 rfl)) p_int) p_int) (a_cons (p_ix (p_ix (p_nm 7 (B 7 rfl)) (p_neg p_int)) p_int) (a_cons (p_nm 3 (B 3 rfl)) (a_one (p_nm 6 (B 6 rfl)))))))))))))))))
set_option maxHeartbeats 4000000 in
theorem ok_Scan_load {f : Addr} {fd : FuncData} (F : Fun K "load" "Scan.load" s_Scan_load f fd) (m_sum : mg "sum" = none) (A_Scan_rows : AtOk K cls "Scan" "rows") : FnOk P w K mg base CX0 (1) f fd ["self", "a", "b"] (spOf K cls 3 φ_Scan_load) :=
  fn_ok (ps := ["self", "a", "b"]) (k := 0) (m := 4) (nb := 3) (lock := [0]) (T := T_Scan_load) F sc_Scan_load rfl sp_Scan_load (fun c cdv A outer s H E hK hcls hlk hnb hr => by
    subst hK hcls
    have hu : (A.deeper (envOfC "Scan.load" (defScope s_Scan_load) s.heap.objs.size f cdv)).units + 65 < cLine := by have := hr.un; omega
    have B : ∀ i, decide (i < 3) = true → i < c.nb := fun i h => by rw [hnb]; exact of_decide_eq_true h
    have L : ∀ j, decide (j ∉ ([0] : List Nat)) = true → j ∉ c.lock := fun j h => by rw [hlk]; exact of_decide_eq_true h
    have W : ∀ l : List Nat, decide (∀ i ∈ l, 3 ≤ i) = true → ∀ i ∈ l, c.nb ≤ i := fun l h => by rw [hnb]; exact of_decide_eq_true h
    have LL : ∀ l : List Nat, decide (∀ i ∈ l, i ∉ ([0] : List Nat)) = true → ∀ i ∈ l, i ∉ c.lock := fun l h => by rw [hlk]; exact of_decide_eq_true h
    have nd := sc_Scan_load.nd
    exact (ss_one (s_ret (p_cb (cr_sum rfl) (sum_ok rfl) m_sum (a_one (p_lc (own := [("first", 3), ("last", 4), ("name", 5), ("work", 6)]) (g := .tp [.nm 3, .nm 4, .nm 5, .nm 6])  rfl nd (i_any (p_fd 0 A_Scan_rows (B 0 rfl))) (blkOk_by (N := ["self", "a", "b", "first", "last", "name", "work"]) (sc := defScope s_Scan_load) (by decide +kernel)) (W _ rfl) (LL _ rfl) (by decide) (fun _ _ _ _ _ => (g_tup rfl (g_cons (g_nm 3 nd (L 3 rfl)) (g_cons (g_nm 4 nd (L 4 rfl)) (g_cons (g_nm 5 nd (L 5 rfl)) (g_cons (g_nm 6 nd (L 6 rfl)) g_nil)))))) (fun _ _ _ _ _ => (ts_one (t_pw (t_and (t_cmp hu (p_nm 1 (B 1 rfl)) (p_nmC 3)) (t_and1 (t_cmp hu (p_nmC 4) (p_nm 2 (B 2 rfl)))))))) (fun _ _ _ _ _ => (p_nmC 6))))))))
set_option maxHeartbeats 4000000 in
theorem ok_Scan_length {f : Addr} {fd : FuncData} (F : Fun K "length" "Scan.length" s_Scan_length f fd) (m_sum : mg "sum" = none) (A_Scan_free : AtOk K cls "Scan" "free") (D_free_part : DefOk P w K cls mg base "free_part" 3 [] 1 φ_free_part) : FnOk P w K mg base CX0 (2) f fd ["self", "a", "b"] (spOf K cls 3 φ_Scan_length) :=
  fn_ok (ps := ["self", "a", "b"]) (k := 1) (m := 2) (nb := 3) (lock := [0]) (T := T_Scan_length) F sc_Scan_length rfl sp_Scan_length (fun c cdv A outer s H E hK hcls hlk hnb hr => by
    subst hK hcls
    have hu : (A.deeper (envOfC "Scan.length" (defScope s_Scan_length) s.heap.objs.size f cdv)).units + 65 < cLine := by have := hr.un; omega
    have B : ∀ i, decide (i < 3) = true → i < c.nb := fun i h => by rw [hnb]; exact of_decide_eq_true h
    have L : ∀ j, decide (j ∉ ([0] : List Nat)) = true → j ∉ c.lock := fun j h => by rw [hlk]; exact of_decide_eq_true h
    have W : ∀ l : List Nat, decide (∀ i ∈ l, 3 ≤ i) = true → ∀ i ∈ l, c.nb ≤ i := fun l h => by rw [hnb]; exact of_decide_eq_true h
    have LL : ∀ l : List Nat, decide (∀ i ∈ l, i ∉ ([0] : List Nat)) = true → ∀ i ∈ l, i ∉ c.lock := fun l h => by rw [hlk]; exact of_decide_eq_true h
    have nd := sc_Scan_length.nd
    exact (ss_one (s_ret (p_cb (cr_sum rfl) (sum_ok rfl) m_sum (a_one (p_lc (own := [("start", 3), ("stop", 4)]) (g := .tp [.nm 3, .nm 4])  rfl nd (i_any (p_call [false, false, false] D_free_part hr (by omega) (a_cons (p_fd 0 A_Scan_free (B 0 rfl)) (a_cons (p_nm 1 (B 1 rfl)) (a_one (p_nm 2 (B 2 rfl))))))) (blkOk_by (N := ["self", "a", "b", "start", "stop"]) (sc := defScope s_Scan_length) (by decide +kernel)) (W _ rfl) (LL _ rfl) (by decide) (fun _ _ _ _ _ => (g_tup rfl (g_cons (g_nm 3 nd (L 3 rfl)) (g_cons (g_nm 4 nd (L 4 rfl)) g_nil)))) (fun _ _ _ _ _ => ts_nil) (fun _ _ _ _ _ => (p_op (p_nmC 4) (p_nmC 3)))))))))
set_option maxHeartbeats 4000000 in
theorem ok_Scan_densest {f : Addr} {fd : FuncData} (F : Fun K "densest" "Scan.densest" s_Scan_densest f fd) (m_sorted : mg "sorted" = none) (A_Scan_rows : AtOk K cls "Scan" "rows") (m_reversed : mg "reversed" = none) (D_Scan_load : MethOk P w K cls mg base "Scan" "load" 3 [] 1 φ_Scan_load) (D_Scan_length : MethOk P w K cls mg base "Scan" "length" 3 [] 2 φ_Scan_length) : FnOk P w K mg base CX0 (3) f fd ["self"] (spOf K cls 1 φ_Scan_densest) :=
  fn_ok (ps := ["self"]) (k := 2) (m := 6) (nb := 6) (lock := [0]) (T := T_Scan_densest) F sc_Scan_densest rfl sp_Scan_densest (fun c cdv A outer s H E hK hcls hlk hnb hr => by
    subst hK hcls
    have hu : (A.deeper (envOfC "Scan.densest" (defScope s_Scan_densest) s.heap.objs.size f cdv)).units + 65 < cLine := by have := hr.un; omega
    have B : ∀ i, decide (i < 6) = true → i < c.nb := fun i h => by rw [hnb]; exact of_decide_eq_true h
    have L : ∀ j, decide (j ∉ ([0] : List Nat)) = true → j ∉ c.lock := fun j h => by rw [hlk]; exact of_decide_eq_true h
    have W : ∀ l : List Nat, decide (∀ i ∈ l, 6 ≤ i) = true → ∀ i ∈ l, c.nb ≤ i := fun l h => by rw [hnb]; exact of_decide_eq_true h
    have LL : ∀ l : List Nat, decide (∀ i ∈ l, i ∉ ([0] : List Nat)) = true → ∀ i ∈ l, i ∉ c.lock := fun l h => by rw [hlk]; exact of_decide_eq_true h
    have nd := sc_Scan_densest.nd
    exact (ss_cons (s_set 1 nd p_non (L 1 rfl))
      (ss_cons (s_for PassesOwn.never rfl (i_any (p_srt 6 m_sorted rfl nd (p_fd 0 A_Scan_rows (B 0 rfl)) (blkOk_by (own := [("row", 6)]) (N := ["self", "best", "a", "b", "load", "length", "row"]) (sc := defScope s_Scan_densest) (by decide +kernel)) (W [6] rfl _ (by simp)) (L 6 rfl) (fun _ _ _ _ _ => pe_ix (ix_list.or ix_tup) (pe_var (i := 6) rfl (by first | exact Or.inl rfl | exact Or.inr (Or.inl rfl) | exact Or.inr (Or.inr rfl)) (by decide) (by decide)) pe_int (by intro _ _; rfl)) (fun _ _ _ _ _ => pg_name nd rfl (by first | exact Or.inl rfl | exact Or.inr rfl)))) (g_nm 2 nd (L 2 rfl)) (ss_one (s_for PassesOwn.never rfl (i_rev m_reversed (p_srt 6 m_sorted rfl nd (p_fd 0 A_Scan_rows (B 0 rfl)) (blkOk_by (own := [("row", 6)]) (N := ["self", "best", "a", "b", "load", "length", "row"]) (sc := defScope s_Scan_densest) (by decide +kernel)) (W [6] rfl _ (by simp)) (L 6 rfl) (fun _ _ _ _ _ => pe_ix (ix_list.or ix_tup) (pe_var (i := 6) rfl (by first | exact Or.inl rfl | exact Or.inr (Or.inl rfl) | exact Or.inr (Or.inr rfl)) (by decide) (by decide)) pe_int (by intro _ _; rfl)) (fun _ _ _ _ _ => pg_name nd rfl (by first | exact Or.inl rfl | exact Or.inr rfl)))) (g_nm 3 nd (L 3 rfl)) (ss_cons (s_set 4 nd (p_if (t_cmp hu (p_nm 2 (B 2 rfl)) (p_nm 3 (B 3 rfl))) (p_me 0 [false, false] D_Scan_load (B 0 rfl) hr (by omega) (a_cons (p_nm 2 (B 2 rfl)) (a_one (p_nm 3 (B 3 rfl))))) p_int) (L 4 rfl))
      (ss_one (s_if (t_cmp hu (p_nm 4 (B 4 rfl)) p_int) (ss_cons (s_set 5 nd (p_me 0 [false, false] D_Scan_length (B 0 rfl) hr (by omega) (a_cons (p_nm 2 (B 2 rfl)) (a_one (p_nm 3 (B 3 rfl))))) (L 5 rfl))
      (ss_one (s_if (t_pw (t_or (t_cmp hu (p_nm 1 (B 1 rfl)) p_non) (t_or1 (t_cmp hu (p_op (p_nm 4 (B 4 rfl)) (p_ix (p_nm 1 (B 1 rfl)) p_int)) (p_op (p_ix (p_nm 1 (B 1 rfl)) p_int) (p_nm 5 (B 5 rfl))))))) (ss_one (s_set 1 nd (p_tup (a_cons (p_nm 4 (B 4 rfl)) (a_cons (p_nm 5 (B 5 rfl)) (a_cons (p_nm 2 (B 2 rfl)) (a_one (p_nm 3 (B 3 rfl))))))) (L 1 rfl))) ss_nil))) ss_nil))))))
      (ss_one (s_ret (p_nm 1 (B 1 rfl)))))))
set_option maxHeartbeats 4000000 in
theorem ok_rounds_with {f : Addr} {fd : FuncData} (F : Fun K "rounds_with" "rounds_with" s_rounds_with f fd) (m_lcm : mg "lcm" = some (.builtin "math.lcm")) (m_min : mg "min" = none) (m_max : mg "max" = none) (K_Scan : MakeOk P w K cls mg base "Scan" 3 [] 2 φ_Scan___init__) (D_Scan_densest : MethOk P w K cls mg base "Scan" "densest" 1 [] 3 φ_Scan_densest) (m_tuple : mg "tuple" = none) (A_Scan_rows : AtOk K cls "Scan" "rows") (D_ratio : DefOk P w K cls mg base "ratio" 2 [] 1 φ_ratio) (D_free_part : DefOk P w K cls mg base "free_part" 3 [] 1 φ_free_part) (D_taken_away : DefOk P w K cls mg base "taken_away" 3 [] 2 φ_taken_away) : FnOk P w K mg base CX0 (4) f fd ["jobs"] (spOf K cls 1 φ_rounds_with) :=
  fn_ok (ps := ["jobs"]) (k := 3) (m := 17) (nb := 11) (lock := []) (T := T_rounds_with) F sc_rounds_with rfl sp_rounds_with (fun c cdv A outer s H E hK hcls hlk hnb hr => by
    subst hK hcls
    have hu : (A.deeper (envOfC "rounds_with" (defScope s_rounds_with) s.heap.objs.size f cdv)).units + 65 < cLine := by have := hr.un; omega
    have B : ∀ i, decide (i < 11) = true → i < c.nb := fun i h => by rw [hnb]; exact of_decide_eq_true h
    have L : ∀ j, decide (j ∉ ([] : List Nat)) = true → j ∉ c.lock := fun j h => by rw [hlk]; exact of_decide_eq_true h
    have W : ∀ l : List Nat, decide (∀ i ∈ l, 11 ≤ i) = true → ∀ i ∈ l, c.nb ≤ i := fun l h => by rw [hnb]; exact of_decide_eq_true h
    have LL : ∀ l : List Nat, decide (∀ i ∈ l, i ∉ ([] : List Nat)) = true → ∀ i ∈ l, i ∉ c.lock := fun l h => by rw [hlk]; exact of_decide_eq_true h
    have nd := sc_rounds_with.nd
    exact (ss_cons (s_set 1 nd p_int (L 1 rfl))
      (ss_cons (s_for PassesOwn.never rfl (i_any (p_nm 0 (B 0 rfl))) (g_nm 15 nd (L 15 rfl)) (ss_one (s_set 1 nd (p_cbf cr_lcm lcm_ok m_lcm (a_cons (p_nm 1 (B 1 rfl)) (a_one (p_ix (p_ix (p_nmC 15) p_int) p_int)))) (L 1 rfl))))
      (ss_cons (s_setLcB (j := 2) (own := [("name", 11), ("comes", 12), ("due", 13), ("work", 14)]) (g := .tp [.nm 11, .nm 12, .nm 13, .nm 14]) rfl nd (L 2 rfl) (i_any (p_nm 0 (B 0 rfl))) (blkOk_by (N := ["jobs", "scale", "waiting", "found", "free", "scan", "load", "length", "a", "b", "names", "name", "comes", "due", "work", "job", "first", "last"]) (sc := defScope s_rounds_with) (by decide +kernel)) (W _ rfl) (LL _ rfl) (by decide) (fun _ _ _ _ _ => (g_tup rfl (g_cons (g_nm 11 nd (L 11 rfl)) (g_cons (g_nm 12 nd (L 12 rfl)) (g_cons (g_nm 13 nd (L 13 rfl)) (g_cons (g_nm 14 nd (L 14 rfl)) g_nil)))))) (fun _ _ _ _ _ => ts_nil) (fun _ _ _ _ _ => (p_tup (a_cons (p_nmC 11) (a_cons (p_nmC 12) (a_cons (p_nmC 13) (a_one (p_op (p_ix (p_nmC 14) p_int) (p_op (p_nm 1 (B 1 rfl)) (p_ix (p_nmC 14) p_int))))))))))
      (ss_cons (s_set 3 nd (p_lst a_nil) (L 3 rfl))
      (ss_cons (s_set 4 nd (p_lst a_nil) (L 4 rfl))
      (ss_cons (s_if (t_tru (p_nm 2 (B 2 rfl))) (ss_one (s_set 4 nd (p_lst (a_one (p_tup (a_cons (p_cb (cr_min rfl) (minL_ok rfl) m_min (a_one (p_lc (own := [("job", 15)]) (g := .nm 15)  rfl nd (i_any (p_nm 2 (B 2 rfl))) (blkOk_by (N := ["jobs", "scale", "waiting", "found", "free", "scan", "load", "length", "a", "b", "names", "name", "comes", "due", "work", "job", "first", "last"]) (sc := defScope s_rounds_with) (by decide +kernel)) (W _ rfl) (LL _ rfl) (by decide) (fun _ _ _ _ _ => (g_nm 15 nd (L 15 rfl))) (fun _ _ _ _ _ => ts_nil) (fun _ _ _ _ _ => (p_ix (p_nmC 15) p_int))))) (a_one (p_cb (cr_max rfl) (maxL_ok rfl) m_max (a_one (p_lc (own := [("job", 15)]) (g := .nm 15)  rfl nd (i_any (p_nm 2 (B 2 rfl))) (blkOk_by (N := ["jobs", "scale", "waiting", "found", "free", "scan", "load", "length", "a", "b", "names", "name", "comes", "due", "work", "job", "first", "last"]) (sc := defScope s_rounds_with) (by decide +kernel)) (W _ rfl) (LL _ rfl) (by decide) (fun _ _ _ _ _ => (g_nm 15 nd (L 15 rfl))) (fun _ _ _ _ _ => ts_nil) (fun _ _ _ _ _ => (p_ix (p_nmC 15) p_int)))))))))) (L 4 rfl))) ss_nil)
      (ss_cons (s_while PassesOwn.never (t_tru (p_nm 2 (B 2 rfl))) (ss_cons (s_set 5 nd (p_mk 2 K_Scan hr (by omega) (a_cons (p_nm 2 (B 2 rfl)) (a_one (p_nm 4 (B 4 rfl))))) (L 5 rfl))
      (ss_cons (s_asg (p_me0 5 D_Scan_densest (B 5 rfl) hr (by omega)) (g_tup rfl (g_cons (g_nm 6 nd (L 6 rfl)) (g_cons (g_nm 7 nd (L 7 rfl)) (g_cons (g_nm 8 nd (L 8 rfl)) (g_cons (g_nm 9 nd (L 9 rfl)) g_nil))))))
      (ss_cons (s_set 10 nd (p_cty call_tuple_of (tuple_ok rfl) m_tuple (a_one (p_lc (own := [("first", 16), ("last", 17), ("name", 11), ("work", 14)]) (g := .tp [.nm 16, .nm 17, .nm 11, .nm 14])  rfl nd (i_any (p_fd 5 A_Scan_rows (B 5 rfl))) (blkOk_by (N := ["jobs", "scale", "waiting", "found", "free", "scan", "load", "length", "a", "b", "names", "name", "comes", "due", "work", "job", "first", "last"]) (sc := defScope s_rounds_with) (by decide +kernel)) (W _ rfl) (LL _ rfl) (by decide) (fun _ _ _ _ _ => (g_tup rfl (g_cons (g_nm 16 nd (L 16 rfl)) (g_cons (g_nm 17 nd (L 17 rfl)) (g_cons (g_nm 11 nd (L 11 rfl)) (g_cons (g_nm 14 nd (L 14 rfl)) g_nil)))))) (fun _ _ _ _ _ => (ts_one (t_pw (t_and (t_cmp hu (p_nm 8 (B 8 rfl)) (p_nmC 16)) (t_and1 (t_cmp hu (p_nmC 17) (p_nm 9 (B 9 rfl)))))))) (fun _ _ _ _ _ => (p_nmC 11))))) (L 10 rfl))
      (ss_cons (s_exp (p_mu 3 PySem.F.plainAttrs_list PySem.F.slot_list_append PySem.F.type_list_append mt_append app_ok2 (a_one (p_tup (a_cons (p_call [false, false] D_ratio hr (by omega) (a_cons (p_nm 6 (B 6 rfl)) (a_one (p_op (p_nm 7 (B 7 rfl)) (p_nm 1 (B 1 rfl)))))) (a_cons (p_nm 10 (B 10 rfl)) (a_cons (p_cty call_tuple_of (tuple_ok rfl) m_tuple (a_one (p_call [false, false, false] D_free_part hr (by omega) (a_cons (p_nm 4 (B 4 rfl)) (a_cons (p_nm 8 (B 8 rfl)) (a_one (p_nm 9 (B 9 rfl)))))))) (a_cons (p_nm 8 (B 8 rfl)) (a_one (p_nm 9 (B 9 rfl)))))))))))
      (ss_cons (s_setLcB (j := 2) (own := [("job", 15)]) (g := .nm 15) rfl nd (L 2 rfl) (i_any (p_nm 2 (B 2 rfl))) (blkOk_by (N := ["jobs", "scale", "waiting", "found", "free", "scan", "load", "length", "a", "b", "names", "name", "comes", "due", "work", "job", "first", "last"]) (sc := defScope s_rounds_with) (by decide +kernel)) (W _ rfl) (LL _ rfl) (by decide) (fun _ _ _ _ _ => (g_nm 15 nd (L 15 rfl))) (fun _ _ _ _ _ => (ts_one (t_cmp hu (p_ix (p_nmC 15) p_int) (p_nm 10 (B 10 rfl))))) (fun _ _ _ _ _ => (p_nmC 15)))
      (ss_one (s_set 4 nd (p_call [false, false, false] D_taken_away hr (by omega) (a_cons (p_nm 4 (B 4 rfl)) (a_cons (p_nm 8 (B 8 rfl)) (a_one (p_nm 9 (B 9 rfl)))))) (L 4 rfl)))))))))
      (ss_one (s_ret (p_nm 3 (B 3 rfl))))))))))))
set_option maxHeartbeats 4000000 in
theorem ok_with_ratios {f : Addr} {fd : FuncData} (F : Fun K "with_ratios" "with_ratios" s_with_ratios f fd) (D_ratio_1 : DefOk P w K cls mg base "ratio" 2 [(.int 1)] 1 φ_ratio) : FnOk P w K mg base CX0 (2) f fd ["jobs"] (spOf K cls 1 φ_with_ratios) :=
  fn_ok (ps := ["jobs"]) (k := 1) (m := 4) (nb := 1) (lock := []) (T := T_with_ratios) F sc_with_ratios rfl sp_with_ratios (fun c cdv A outer s H E hK hcls hlk hnb hr => by
    subst hK hcls
    have hu : (A.deeper (envOfC "with_ratios" (defScope s_with_ratios) s.heap.objs.size f cdv)).units + 65 < cLine := by have := hr.un; omega
    have B : ∀ i, decide (i < 1) = true → i < c.nb := fun i h => by rw [hnb]; exact of_decide_eq_true h
    have L : ∀ j, decide (j ∉ ([] : List Nat)) = true → j ∉ c.lock := fun j h => by rw [hlk]; exact of_decide_eq_true h
    have W : ∀ l : List Nat, decide (∀ i ∈ l, 1 ≤ i) = true → ∀ i ∈ l, c.nb ≤ i := fun l h => by rw [hnb]; exact of_decide_eq_true h
    have LL : ∀ l : List Nat, decide (∀ i ∈ l, i ∉ ([] : List Nat)) = true → ∀ i ∈ l, i ∉ c.lock := fun l h => by rw [hlk]; exact of_decide_eq_true h
    have nd := sc_with_ratios.nd
    exact (ss_one (s_ret (p_lc (own := [("name", 1), ("comes", 2), ("due", 3), ("work", 4)]) (g := .tp [.nm 1, .nm 2, .nm 3, .nm 4])  rfl nd (i_any (p_nm 0 (B 0 rfl))) (blkOk_by (N := ["jobs", "name", "comes", "due", "work"]) (sc := defScope s_with_ratios) (by decide +kernel)) (W _ rfl) (LL _ rfl) (by decide) (fun _ _ _ _ _ => (g_tup rfl (g_cons (g_nm 1 nd (L 1 rfl)) (g_cons (g_nm 2 nd (L 2 rfl)) (g_cons (g_nm 3 nd (L 3 rfl)) (g_cons (g_nm 4 nd (L 4 rfl)) g_nil)))))) (fun _ _ _ _ _ => ts_nil) (fun _ _ _ _ _ => (p_tup (a_cons (p_nmC 1) (a_cons (p_nmC 2) (a_cons (p_nmC 3) (a_one (p_call [false] D_ratio_1 hr (by omega) (a_one (p_nmC 4)))))))))))))
set_option maxHeartbeats 4000000 in
theorem ok_rounds {f : Addr} {fd : FuncData} (F : Fun K "rounds" "rounds" s_rounds f fd) (D_with_ratios : DefOk P w K cls mg base "with_ratios" 1 [] 2 φ_with_ratios) (D_rounds_with : DefOk P w K cls mg base "rounds_with" 1 [] 4 φ_rounds_with) : FnOk P w K mg base CX0 (5) f fd ["jobs"] (spOf K cls 1 φ_rounds) :=
  fn_ok (ps := ["jobs"]) (k := 4) (m := 1) (nb := 1) (lock := []) (T := T_rounds) F sc_rounds rfl sp_rounds (fun c cdv A outer s H E hK hcls hlk hnb hr => by
    subst hK hcls
    have hu : (A.deeper (envOfC "rounds" (defScope s_rounds) s.heap.objs.size f cdv)).units + 65 < cLine := by have := hr.un; omega
    have B : ∀ i, decide (i < 1) = true → i < c.nb := fun i h => by rw [hnb]; exact of_decide_eq_true h
    have L : ∀ j, decide (j ∉ ([] : List Nat)) = true → j ∉ c.lock := fun j h => by rw [hlk]; exact of_decide_eq_true h
    have W : ∀ l : List Nat, decide (∀ i ∈ l, 1 ≤ i) = true → ∀ i ∈ l, c.nb ≤ i := fun l h => by rw [hnb]; exact of_decide_eq_true h
    have LL : ∀ l : List Nat, decide (∀ i ∈ l, i ∉ ([] : List Nat)) = true → ∀ i ∈ l, i ∉ c.lock := fun l h => by rw [hlk]; exact of_decide_eq_true h
    have nd := sc_rounds.nd
    exact (ss_one (s_ret (p_lc (own := [("one", 1)]) (g := .nm 1)  rfl nd (i_any (p_call [false] D_rounds_with hr (by omega) (a_one (p_call [false] D_with_ratios hr (by omega) (a_one (p_nm 0 (B 0 rfl))))))) (blkOk_by (N := ["jobs", "one"]) (sc := defScope s_rounds) (by decide +kernel)) (W _ rfl) (LL _ rfl) (by decide) (fun _ _ _ _ _ => (g_nm 1 nd (L 1 rfl))) (fun _ _ _ _ _ => ts_nil) (fun _ _ _ _ _ => (p_slice (p_nmC 1) o_none (o_some p_int)))))))
set_option maxHeartbeats 4000000 in
theorem ok__law_pool {f : Addr} {fd : FuncData} (F : Fun K "_law_pool" "_law_pool" s__law_pool f fd) (m_list : mg "list" = none) : FnOk P w K mg base CX0 (1) f fd ["_law_script"] (spOf K cls 1 φ__law_pool) :=
  fn_ok (ps := ["_law_script"]) (k := 0) (m := 0) (nb := 1) (lock := []) (T := T__law_pool) F sc__law_pool rfl sp__law_pool (fun c cdv A outer s H E hK hcls hlk hnb hr => by
    subst hK hcls
    have hu : (A.deeper (envOfC "_law_pool" (defScope s__law_pool) s.heap.objs.size f cdv)).units + 65 < cLine := by have := hr.un; omega
    have B : ∀ i, decide (i < 1) = true → i < c.nb := fun i h => by rw [hnb]; exact of_decide_eq_true h
    have L : ∀ j, decide (j ∉ ([] : List Nat)) = true → j ∉ c.lock := fun j h => by rw [hlk]; exact of_decide_eq_true h
    have W : ∀ l : List Nat, decide (∀ i ∈ l, 1 ≤ i) = true → ∀ i ∈ l, c.nb ≤ i := fun l h => by rw [hnb]; exact of_decide_eq_true h
    have LL : ∀ l : List Nat, decide (∀ i ∈ l, i ∉ ([] : List Nat)) = true → ∀ i ∈ l, i ∉ c.lock := fun l h => by rw [hlk]; exact of_decide_eq_true h
    have nd := sc__law_pool.nd
    exact (ss_one (s_ret (p_lst (a_cons (p_cty call_list_of (list_ok rfl) m_list (a_one (p_nm 0 (B 0 rfl)))) (a_cons p_int (a_cons p_int (a_cons p_int (a_one p_int)))))))))
set_option maxHeartbeats 4000000 in
theorem ok__law_draw {f : Addr} {fd : FuncData} (F : Fun K "_law_draw" "_law_draw" s__law_draw f fd) (m_int : mg "int" = none) (m_len : mg "len" = none) (m_abs : mg "abs" = none) : FnOk P w K mg base CX0 (1) f fd ["_law_pool_here", "_law_many"] (spOf K cls 2 φ__law_draw) :=
  fn_ok (ps := ["_law_pool_here", "_law_many"]) (k := 0) (m := 3) (nb := 5) (lock := [0]) (T := T__law_draw) F sc__law_draw rfl sp__law_draw (fun c cdv A outer s H E hK hcls hlk hnb hr => by
    subst hK hcls
    have hu : (A.deeper (envOfC "_law_draw" (defScope s__law_draw) s.heap.objs.size f cdv)).units + 65 < cLine := by have := hr.un; omega
    have B : ∀ i, decide (i < 5) = true → i < c.nb := fun i h => by rw [hnb]; exact of_decide_eq_true h
    have L : ∀ j, decide (j ∉ ([0] : List Nat)) = true → j ∉ c.lock := fun j h => by rw [hlk]; exact of_decide_eq_true h
    have W : ∀ l : List Nat, decide (∀ i ∈ l, 5 ≤ i) = true → ∀ i ∈ l, c.nb ≤ i := fun l h => by rw [hnb]; exact of_decide_eq_true h
    have LL : ∀ l : List Nat, decide (∀ i ∈ l, i ∉ ([0] : List Nat)) = true → ∀ i ∈ l, i ∉ c.lock := fun l h => by rw [hlk]; exact of_decide_eq_true h
    have nd := sc__law_draw.nd
    exact (ss_cons (s_if (t_cmp hu (p_ix (p_nm 0 (B 0 rfl)) p_int) p_int) (ss_cons (s_set 2 nd (p_op (p_cty call_int1 int_ok m_int (a_one (p_ix (p_nm 0 (B 0 rfl)) p_int))) (p_nm 1 (B 1 rfl))) (L 2 rfl))
      (ss_cons (s_sub 0 p_int (p_op (p_ix (p_nm 0 (B 0 rfl)) p_int) (p_nm 1 (B 1 rfl))))
      (ss_one (s_ret (p_nm 2 (B 2 rfl)))))) ss_nil)
      (ss_cons (s_if (t_pw (t_and (t_cmp hu (p_op (p_cty call_int1 int_ok m_int (a_one (p_ix (p_nm 0 (B 0 rfl)) p_int))) p_int) p_int) (t_and1 (t_cmp hu (p_ix (p_nm 0 (B 0 rfl)) p_int) (p_len m_len (a_one (p_ix (p_nm 0 (B 0 rfl)) p_int))))))) (ss_cons (s_set 3 nd (p_cb call_abs abs_ok m_abs (a_one (p_ix (p_ix (p_nm 0 (B 0 rfl)) p_int) (p_ix (p_nm 0 (B 0 rfl)) p_int)))) (L 3 rfl))
      (ss_cons (s_sub 0 p_int (p_op (p_ix (p_nm 0 (B 0 rfl)) p_int) p_int))
      (ss_cons (s_if (t_cmp hu (p_nm 3 (B 3 rfl)) (p_op p_int p_int)) (ss_cons (s_sub 0 p_int (p_op (p_nm 3 (B 3 rfl)) (p_nm 1 (B 1 rfl))))
      (ss_one (s_ret (p_op (p_cty call_int1 int_ok m_int (a_one (p_nm 3 (B 3 rfl)))) (p_nm 1 (B 1 rfl)))))) ss_nil)
      (ss_one (s_sub 0 p_int (p_nm 3 (B 3 rfl))))))) ss_nil)
      (ss_cons (s_sub 0 p_int (p_op (p_ix (p_nm 0 (B 0 rfl)) p_int) p_int))
      (ss_cons (s_set 4 nd (p_op (p_cty call_int1 int_ok m_int (a_one (p_op (p_op (p_op (p_ix (p_nm 0 (B 0 rfl)) p_int) p_int) (p_op (p_ix (p_nm 0 (B 0 rfl)) p_int) p_int)) p_int))) p_int) (L 4 rfl))
      (ss_cons (s_set 4 nd (p_op (p_cty call_int1 int_ok m_int (a_one (p_op (p_op (p_nm 4 (B 4 rfl)) (p_nm 4 (B 4 rfl))) (p_op (p_ix (p_nm 0 (B 0 rfl)) p_int) p_int)))) p_int) (L 4 rfl))
      (ss_one (s_ret (p_op (p_cty call_int1 int_ok m_int (a_one (p_nm 4 (B 4 rfl)))) (p_nm 1 (B 1 rfl)))))))))))
set_option maxHeartbeats 4000000 in
theorem ok__law_less {f : Addr} {fd : FuncData} (F : Fun K "_law_less" "_law_less" s__law_less f fd)  : FnOk P w K mg base CX0 (1) f fd ["_law_a", "_law_b"] (spOf K cls 2 φ__law_less) :=
  fn_ok (ps := ["_law_a", "_law_b"]) (k := 0) (m := 0) (nb := 2) (lock := []) (T := T__law_less) F sc__law_less rfl sp__law_less (fun c cdv A outer s H E hK hcls hlk hnb hr => by
    subst hK hcls
    have hu : (A.deeper (envOfC "_law_less" (defScope s__law_less) s.heap.objs.size f cdv)).units + 65 < cLine := by have := hr.un; omega
    have B : ∀ i, decide (i < 2) = true → i < c.nb := fun i h => by rw [hnb]; exact of_decide_eq_true h
    have L : ∀ j, decide (j ∉ ([] : List Nat)) = true → j ∉ c.lock := fun j h => by rw [hlk]; exact of_decide_eq_true h
    have W : ∀ l : List Nat, decide (∀ i ∈ l, 2 ≤ i) = true → ∀ i ∈ l, c.nb ≤ i := fun l h => by rw [hnb]; exact of_decide_eq_true h
    have LL : ∀ l : List Nat, decide (∀ i ∈ l, i ∉ ([] : List Nat)) = true → ∀ i ∈ l, i ∉ c.lock := fun l h => by rw [hlk]; exact of_decide_eq_true h
    have nd := sc__law_less.nd
    exact (ss_one (s_ret (p_cmp hu (p_op (p_ix (p_nm 0 (B 0 rfl)) p_int) (p_ix (p_nm 1 (B 1 rfl)) p_int)) (p_op (p_ix (p_nm 1 (B 1 rfl)) p_int) (p_ix (p_nm 0 (B 0 rfl)) p_int))))))
set_option maxHeartbeats 4000000 in
theorem ok__law_name {f : Addr} {fd : FuncData} (F : Fun K "_law_name" "_law_name" s__law_name f fd) (D__law_draw : DefOk P w K cls mg base "_law_draw" 2 [] 1 φ__law_draw) : FnOk P w K mg base CX0 (2) f fd ["_law_pool_here", "_law_index"] (spOf K cls 2 φ__law_name) :=
  fn_ok (ps := ["_law_pool_here", "_law_index"]) (k := 1) (m := 2) (nb := 4) (lock := [0]) (T := T__law_name) F sc__law_name rfl sp__law_name (fun c cdv A outer s H E hK hcls hlk hnb hr => by
    subst hK hcls
    have hu : (A.deeper (envOfC "_law_name" (defScope s__law_name) s.heap.objs.size f cdv)).units + 65 < cLine := by have := hr.un; omega
    have B : ∀ i, decide (i < 4) = true → i < c.nb := fun i h => by rw [hnb]; exact of_decide_eq_true h
    have L : ∀ j, decide (j ∉ ([0] : List Nat)) = true → j ∉ c.lock := fun j h => by rw [hlk]; exact of_decide_eq_true h
    have W : ∀ l : List Nat, decide (∀ i ∈ l, 4 ≤ i) = true → ∀ i ∈ l, c.nb ≤ i := fun l h => by rw [hnb]; exact of_decide_eq_true h
    have LL : ∀ l : List Nat, decide (∀ i ∈ l, i ∉ ([0] : List Nat)) = true → ∀ i ∈ l, i ∉ c.lock := fun l h => by rw [hlk]; exact of_decide_eq_true h
    have nd := sc__law_name.nd
    exact (ss_cons (s_set 2 nd (p_ix p_str (p_nm 1 (B 1 rfl))) (L 2 rfl))
      (ss_cons (s_set 3 nd (p_ix (p_lst (a_cons p_str (a_cons p_str (a_cons p_str (a_one p_str))))) (p_call [true, false] D__law_draw hr (by omega) (a_cons (p_nm 0 (B 0 rfl)) (a_one p_int)))) (L 3 rfl))
      (ss_one (s_ret (p_op (p_op (p_nm 3 (B 3 rfl)) (p_nm 2 (B 2 rfl))) (p_ix (p_lst (a_cons p_str (a_cons p_str (a_one p_str)))) (p_call [true, false] D__law_draw hr (by omega) (a_cons (p_nm 0 (B 0 rfl)) (a_one p_int))))))))))
set_option maxHeartbeats 4000000 in
theorem ok__law_window {f : Addr} {fd : FuncData} (F : Fun K "_law_window" "_law_window" s__law_window f fd) (D__law_draw : DefOk P w K cls mg base "_law_draw" 2 [] 1 φ__law_draw) : FnOk P w K mg base CX0 (2) f fd ["_law_pool_here", "_law_wide"] (spOf K cls 2 φ__law_window) :=
  fn_ok (ps := ["_law_pool_here", "_law_wide"]) (k := 1) (m := 1) (nb := 3) (lock := [0]) (T := T__law_window) F sc__law_window rfl sp__law_window (fun c cdv A outer s H E hK hcls hlk hnb hr => by
    subst hK hcls
    have hu : (A.deeper (envOfC "_law_window" (defScope s__law_window) s.heap.objs.size f cdv)).units + 65 < cLine := by have := hr.un; omega
    have B : ∀ i, decide (i < 3) = true → i < c.nb := fun i h => by rw [hnb]; exact of_decide_eq_true h
    have L : ∀ j, decide (j ∉ ([0] : List Nat)) = true → j ∉ c.lock := fun j h => by rw [hlk]; exact of_decide_eq_true h
    have W : ∀ l : List Nat, decide (∀ i ∈ l, 3 ≤ i) = true → ∀ i ∈ l, c.nb ≤ i := fun l h => by rw [hnb]; exact of_decide_eq_true h
    have LL : ∀ l : List Nat, decide (∀ i ∈ l, i ∉ ([0] : List Nat)) = true → ∀ i ∈ l, i ∉ c.lock := fun l h => by rw [hlk]; exact of_decide_eq_true h
    have nd := sc__law_window.nd
    exact (ss_cons (s_if (t_tru (p_nm 1 (B 1 rfl))) (ss_cons (s_set 2 nd (p_call [true, false] D__law_draw hr (by omega) (a_cons (p_nm 0 (B 0 rfl)) (a_one p_int))) (L 2 rfl))
      (ss_one (s_ret (p_tup (a_cons (p_nm 2 (B 2 rfl)) (a_one (p_op (p_op (p_nm 2 (B 2 rfl)) p_int) (p_call [true, false] D__law_draw hr (by omega) (a_cons (p_nm 0 (B 0 rfl)) (a_one (p_op p_int (p_nm 2 (B 2 rfl))))))))))))) ss_nil)
      (ss_cons (s_set 2 nd (p_call [true, false] D__law_draw hr (by omega) (a_cons (p_nm 0 (B 0 rfl)) (a_one p_int))) (L 2 rfl))
      (ss_one (s_ret (p_tup (a_cons (p_nm 2 (B 2 rfl)) (a_one (p_op (p_op (p_nm 2 (B 2 rfl)) p_int) (p_call [true, false] D__law_draw hr (by omega) (a_cons (p_nm 0 (B 0 rfl)) (a_one p_int))))))))))))
set_option maxHeartbeats 4000000 in
theorem ok__law_jobs {f : Addr} {fd : FuncData} (F : Fun K "_law_jobs" "_law_jobs" s__law_jobs f fd) (D__law_draw : DefOk P w K cls mg base "_law_draw" 2 [] 1 φ__law_draw) (m_range : mg "range" = none) (D__law_window : DefOk P w K cls mg base "_law_window" 2 [] 2 φ__law_window) (D__law_name : DefOk P w K cls mg base "_law_name" 2 [] 2 φ__law_name) (m_tuple : mg "tuple" = none) : FnOk P w K mg base CX0 (3) f fd ["_law_pool_here", "_law_most"] (spOf K cls 2 φ__law_jobs) :=
  fn_ok (ps := ["_law_pool_here", "_law_most"]) (k := 2) (m := 7) (nb := 9) (lock := [0]) (T := T__law_jobs) F sc__law_jobs rfl sp__law_jobs (fun c cdv A outer s H E hK hcls hlk hnb hr => by
    subst hK hcls
    have hu : (A.deeper (envOfC "_law_jobs" (defScope s__law_jobs) s.heap.objs.size f cdv)).units + 65 < cLine := by have := hr.un; omega
    have B : ∀ i, decide (i < 9) = true → i < c.nb := fun i h => by rw [hnb]; exact of_decide_eq_true h
    have L : ∀ j, decide (j ∉ ([0] : List Nat)) = true → j ∉ c.lock := fun j h => by rw [hlk]; exact of_decide_eq_true h
    have W : ∀ l : List Nat, decide (∀ i ∈ l, 9 ≤ i) = true → ∀ i ∈ l, c.nb ≤ i := fun l h => by rw [hnb]; exact of_decide_eq_true h
    have LL : ∀ l : List Nat, decide (∀ i ∈ l, i ∉ ([0] : List Nat)) = true → ∀ i ∈ l, i ∉ c.lock := fun l h => by rw [hlk]; exact of_decide_eq_true h
    have nd := sc__law_jobs.nd
    exact (ss_cons (s_set 2 nd (p_cmp hu (p_call [true, false] D__law_draw hr (by omega) (a_cons (p_nm 0 (B 0 rfl)) (a_one p_int))) p_int) (L 2 rfl))
      (ss_cons (s_set 3 nd (p_lst a_nil) (L 3 rfl))
      (ss_cons (s_for PassesOwn.never rfl (i_rng1 m_range (a_one (p_call [true, false] D__law_draw hr (by omega) (a_cons (p_nm 0 (B 0 rfl)) (a_one (p_op (p_nm 1 (B 1 rfl)) p_int)))))) (g_nm 4 nd (L 4 rfl)) (ss_cons (s_asg (p_call [true, false] D__law_window hr (by omega) (a_cons (p_nm 0 (B 0 rfl)) (a_one (p_nm 2 (B 2 rfl))))) (g_tup rfl (g_cons (g_nm 5 nd (L 5 rfl)) (g_cons (g_nm 6 nd (L 6 rfl)) g_nil))))
      (ss_cons (s_set 7 nd (p_op p_int (p_call [true, false] D__law_draw hr (by omega) (a_cons (p_nm 0 (B 0 rfl)) (a_one p_int)))) (L 7 rfl))
      (ss_cons (s_if (t_cmp hu (p_call [true, false] D__law_draw hr (by omega) (a_cons (p_nm 0 (B 0 rfl)) (a_one p_int))) p_int) (ss_one (s_set 7 nd (p_op p_int (p_call [true, false] D__law_draw hr (by omega) (a_cons (p_nm 0 (B 0 rfl)) (a_one p_int)))) (L 7 rfl))) ss_nil)
      (ss_cons (s_if (t_pw (t_and (t_cmp hu (p_nm 4 (B 4 rfl)) p_int) (t_and1 (t_cmp hu (p_call [true, false] D__law_draw hr (by omega) (a_cons (p_nm 0 (B 0 rfl)) (a_one p_int))) p_int)))) (ss_cons (s_set 8 nd (p_ix (p_nm 3 (B 3 rfl)) (p_call [true, false] D__law_draw hr (by omega) (a_cons (p_nm 0 (B 0 rfl)) (a_one (p_nm 4 (B 4 rfl)))))) (L 8 rfl))
      (ss_one (s_par rfl nd (by decide) (a_cons (p_ix (p_nm 8 (B 8 rfl)) p_int) (a_one (p_ix (p_nm 8 (B 8 rfl)) p_int))) (L 5 rfl) (L 6 rfl)))) ss_nil)
      (ss_cons (s_if (t_pw (t_and (t_cmp hu (p_nm 4 (B 4 rfl)) p_int) (t_and1 (t_cmp hu (p_call [true, false] D__law_draw hr (by omega) (a_cons (p_nm 0 (B 0 rfl)) (a_one p_int))) p_int)))) (ss_cons (s_set 8 nd (p_ix (p_nm 3 (B 3 rfl)) (p_call [true, false] D__law_draw hr (by omega) (a_cons (p_nm 0 (B 0 rfl)) (a_one (p_nm 4 (B 4 rfl)))))) (L 8 rfl))
      (ss_one (s_if (t_cmp hu (p_ix (p_nm 8 (B 8 rfl)) p_int) p_int) (ss_one (s_par rfl nd (by decide) (a_cons (p_ix (p_nm 8 (B 8 rfl)) p_int) (a_one (p_op (p_op (p_ix (p_nm 8 (B 8 rfl)) p_int) p_int) (p_call [true, false] D__law_draw hr (by omega) (a_cons (p_nm 0 (B 0 rfl)) (a_one p_int)))))) (L 5 rfl) (L 6 rfl))) ss_nil))) ss_nil)
      (ss_one (s_exp (p_mu 3 PySem.F.plainAttrs_list PySem.F.slot_list_append PySem.F.type_list_append mt_append app_ok2 (a_one (p_tup (a_cons (p_call [true, false] D__law_name hr (by omega) (a_cons (p_nm 0 (B 0 rfl)) (a_one (p_nm 4 (B 4 rfl))))) (a_cons (p_nm 5 (B 5 rfl)) (a_cons (p_nm 6 (B 6 rfl)) (a_one (p_nm 7 (B 7 rfl)))))))))))))))))
      (ss_one (s_ret (p_cty call_tuple_of (tuple_ok rfl) m_tuple (a_one (p_nm 3 (B 3 rfl))))))))))
set_option maxHeartbeats 4000000 in
theorem ok__law_covered {f : Addr} {fd : FuncData} (F : Fun K "_law_covered" "_law_covered" s__law_covered f fd) (D__law_less : DefOk P w K cls mg base "_law_less" 2 [] 1 φ__law_less) (m_sum : mg "sum" = none) (m_max : mg "max" = none) (m_min : mg "min" = none) : FnOk P w K mg base CX0 (2) f fd ["_law_found", "_law_job"] (spOf K cls 2 φ__law_covered) :=
  fn_ok (ps := ["_law_found", "_law_job"]) (k := 1) (m := 8) (nb := 7) (lock := []) (T := T__law_covered) F sc__law_covered rfl sp__law_covered (fun c cdv A outer s H E hK hcls hlk hnb hr => by
    subst hK hcls
    have hu : (A.deeper (envOfC "_law_covered" (defScope s__law_covered) s.heap.objs.size f cdv)).units + 65 < cLine := by have := hr.un; omega
    have B : ∀ i, decide (i < 7) = true → i < c.nb := fun i h => by rw [hnb]; exact of_decide_eq_true h
    have L : ∀ j, decide (j ∉ ([] : List Nat)) = true → j ∉ c.lock := fun j h => by rw [hlk]; exact of_decide_eq_true h
    have W : ∀ l : List Nat, decide (∀ i ∈ l, 7 ≤ i) = true → ∀ i ∈ l, c.nb ≤ i := fun l h => by rw [hnb]; exact of_decide_eq_true h
    have LL : ∀ l : List Nat, decide (∀ i ∈ l, i ∉ ([] : List Nat)) = true → ∀ i ∈ l, i ∉ c.lock := fun l h => by rw [hlk]; exact of_decide_eq_true h
    have nd := sc__law_covered.nd
    exact (ss_cons (s_set 2 nd (p_ix (p_lc (own := [("_law_row", 7)]) (g := .nm 7)  rfl nd (i_any (p_nm 0 (B 0 rfl))) (blkOk_by (N := ["_law_found", "_law_job", "_law_own", "_law_many", "_law_speed", "_law_names", "_law_times", "_law_row", "_law_start", "_law_stop"]) (sc := defScope s__law_covered) (by decide +kernel)) (W _ rfl) (LL _ rfl) (by decide) (fun _ _ _ _ _ => (g_nm 7 nd (L 7 rfl))) (fun _ _ _ _ _ => (ts_one (t_cmp hu (p_ix (p_nm 1 (B 1 rfl)) p_int) (p_ix (p_nmC 7) p_int)))) (fun _ _ _ _ _ => (p_ix (p_nmC 7) p_int))) p_int) (L 2 rfl))
      (ss_cons (s_set 3 nd p_int (L 3 rfl))
      (ss_cons (s_for PassesOwn.never rfl (i_any (p_nm 0 (B 0 rfl))) (g_tup rfl (g_cons (g_nm 4 nd (L 4 rfl)) (g_cons (g_nm 5 nd (L 5 rfl)) (g_cons (g_nm 6 nd (L 6 rfl)) g_nil)))) (ss_one (s_if (t_not (t_tru (p_call [false, false] D__law_less hr (by omega) (a_cons (p_nm 4 (B 4 rfl)) (a_one (p_nm 2 (B 2 rfl))))))) (ss_one (s_set 3 nd (p_op (p_nm 3 (B 3 rfl)) (p_cb (cr_sum rfl) (sum_ok rfl) m_sum (a_one (p_lc (own := [("_law_start", 8), ("_law_stop", 9)]) (g := .tp [.nm 8, .nm 9])  rfl nd (i_any (p_nm 6 (B 6 rfl))) (blkOk_by (N := ["_law_found", "_law_job", "_law_own", "_law_many", "_law_speed", "_law_names", "_law_times", "_law_row", "_law_start", "_law_stop"]) (sc := defScope s__law_covered) (by decide +kernel)) (W _ rfl) (LL _ rfl) (by decide) (fun _ _ _ _ _ => (g_tup rfl (g_cons (g_nm 8 nd (L 8 rfl)) (g_cons (g_nm 9 nd (L 9 rfl)) g_nil)))) (fun _ _ _ _ _ => ts_nil) (fun _ _ _ _ _ => (p_cb (call_max2 rfl) max_ok m_max (a_cons p_int (a_one (p_op (p_cb (call_min2 rfl) min_ok m_min (a_cons (p_nmC 9) (a_one (p_ix (p_nm 1 (B 1 rfl)) p_int)))) (p_cb (call_max2 rfl) max_ok m_max (a_cons (p_nmC 8) (a_one (p_ix (p_nm 1 (B 1 rfl)) p_int))))))))))))) (L 3 rfl))) ss_nil)))
      (ss_one (s_ret (p_nm 3 (B 3 rfl))))))))
set_option maxHeartbeats 4000000 in
theorem ok_law {f : Addr} {fd : FuncData} (F : Fun K "law" "law" s_law f fd) (D__law_pool : DefOk P w K cls mg base "_law_pool" 1 [] 1 φ__law_pool) (D__law_jobs : DefOk P w K cls mg base "_law_jobs" 2 [] 3 φ__law_jobs) (D_rounds : DefOk P w K cls mg base "rounds" 1 [] 5 φ_rounds) (m_range : mg "range" = none) (m_len : mg "len" = none) (D__law_less : DefOk P w K cls mg base "_law_less" 2 [] 1 φ__law_less) (m_list : mg "list" = none) (m_sum : mg "sum" = none) (m_sorted : mg "sorted" = none) (D__law_covered : DefOk P w K cls mg base "_law_covered" 2 [] 2 φ__law_covered) : FnOk P w K mg base CX0 (6) f fd ["_law_script"] (spOf K cls 1 fnLaw) :=
  fn_ok (ps := ["_law_script"]) (k := 5) (m := 14) (nb := 12) (lock := []) (T := T_law) F sc_law rfl sp_law (fun c cdv A outer s H E hK hcls hlk hnb hr => by
    subst hK hcls
    have hu : (A.deeper (envOfC "law" (defScope s_law) s.heap.objs.size f cdv)).units + 65 < cLine := by have := hr.un; omega
    have B : ∀ i, decide (i < 12) = true → i < c.nb := fun i h => by rw [hnb]; exact of_decide_eq_true h
    have L : ∀ j, decide (j ∉ ([] : List Nat)) = true → j ∉ c.lock := fun j h => by rw [hlk]; exact of_decide_eq_true h
    have W : ∀ l : List Nat, decide (∀ i ∈ l, 12 ≤ i) = true → ∀ i ∈ l, c.nb ≤ i := fun l h => by rw [hnb]; exact of_decide_eq_true h
    have LL : ∀ l : List Nat, decide (∀ i ∈ l, i ∉ ([] : List Nat)) = true → ∀ i ∈ l, i ∉ c.lock := fun l h => by rw [hlk]; exact of_decide_eq_true h
    have nd := sc_law.nd
    exact (ss_cons (s_set 1 nd (p_call [false] D__law_pool hr (by omega) (a_one (p_nm 0 (B 0 rfl)))) (L 1 rfl))
      (ss_cons (s_set 2 nd (p_call [true, false] D__law_jobs hr (by omega) (a_cons (p_nm 1 (B 1 rfl)) (a_one p_int))) (L 2 rfl))
      (ss_cons (s_set 3 nd (p_call [false] D_rounds hr (by omega) (a_one (p_nm 2 (B 2 rfl)))) (L 3 rfl))
      (ss_cons (s_set 4 nd (p_lst a_nil) (L 4 rfl))
      (ss_cons (s_set 5 nd (p_lst a_nil) (L 5 rfl))
      (ss_cons (s_for PassesOwn.never rfl (i_rng1 m_range (a_one (p_len m_len (a_one (p_nm 3 (B 3 rfl)))))) (g_nm 6 nd (L 6 rfl)) (ss_cons (s_asg (p_ix (p_nm 3 (B 3 rfl)) (p_nm 6 (B 6 rfl))) (g_tup rfl (g_cons (g_nm 7 nd (L 7 rfl)) (g_cons (g_nm 8 nd (L 8 rfl)) (g_cons (g_nm 9 nd (L 9 rfl)) g_nil)))))
      (ss_cons (s_if (t_pw (t_and (t_cmp hu (p_nm 6 (B 6 rfl)) p_int) (t_and1 (t_tru (p_call [false, false] D__law_less hr (by omega) (a_cons (p_ix (p_ix (p_nm 3 (B 3 rfl)) (p_op (p_nm 6 (B 6 rfl)) p_int)) p_int) (a_one (p_nm 7 (B 7 rfl))))))))) (ss_one (s_ret p_bl)) ss_nil)
      (ss_cons (s_exp (p_mu 4 PySem.F.plainAttrs_list PySem.F.slot_list_extend PySem.F.type_list_extend mt_extend ext_ok2 (a_one (p_cty call_list_of (list_ok rfl) m_list (a_one (p_nm 8 (B 8 rfl)))))))
      (ss_cons (s_exp (p_mu 5 PySem.F.plainAttrs_list PySem.F.slot_list_extend PySem.F.type_list_extend mt_extend ext_ok2 (a_one (p_cty call_list_of (list_ok rfl) m_list (a_one (p_nm 9 (B 9 rfl)))))))
      (ss_cons (s_set 10 nd (p_cb (cr_sum rfl) (sum_ok rfl) m_sum (a_one (p_lc (own := [("_law_start", 12), ("_law_stop", 13)]) (g := .tp [.nm 12, .nm 13])  rfl nd (i_any (p_nm 9 (B 9 rfl))) (blkOk_by (N := ["_law_script", "_law_pool_here", "_law_jobs_here", "_law_found", "_law_names", "_law_spans", "_law_k", "_law_speed", "_law_own", "_law_times", "_law_length", "_law_work", "_law_start", "_law_stop", "_law_job"]) (sc := defScope s_law) (by decide +kernel)) (W _ rfl) (LL _ rfl) (by decide) (fun _ _ _ _ _ => (g_tup rfl (g_cons (g_nm 12 nd (L 12 rfl)) (g_cons (g_nm 13 nd (L 13 rfl)) g_nil)))) (fun _ _ _ _ _ => ts_nil) (fun _ _ _ _ _ => (p_op (p_nmC 13) (p_nmC 12)))))) (L 10 rfl))
      (ss_cons (s_set 11 nd (p_cb (cr_sum rfl) (sum_ok rfl) m_sum (a_one (p_lc (own := [("_law_job", 14)]) (g := .nm 14)  rfl nd (i_any (p_nm 2 (B 2 rfl))) (blkOk_by (N := ["_law_script", "_law_pool_here", "_law_jobs_here", "_law_found", "_law_names", "_law_spans", "_law_k", "_law_speed", "_law_own", "_law_times", "_law_length", "_law_work", "_law_start", "_law_stop", "_law_job"]) (sc := defScope s_law) (by decide +kernel)) (W _ rfl) (LL _ rfl) (by decide) (fun _ _ _ _ _ => (g_nm 14 nd (L 14 rfl))) (fun _ _ _ _ _ => (ts_one (t_cmp hu (p_ix (p_nmC 14) p_int) (p_nm 8 (B 8 rfl))))) (fun _ _ _ _ _ => (p_ix (p_nmC 14) p_int))))) (L 11 rfl))
      (ss_one (s_if (t_pw (t_or (t_cmp hu (p_op (p_ix (p_nm 7 (B 7 rfl)) p_int) (p_nm 10 (B 10 rfl))) (p_op (p_nm 11 (B 11 rfl)) (p_ix (p_nm 7 (B 7 rfl)) p_int))) (t_or1 (t_cmp hu (p_nm 10 (B 10 rfl)) p_int)))) (ss_one (s_ret p_bl)) ss_nil)))))))))
      (ss_cons (s_if (t_cmp hu (p_cb cr_sortedA (sortA_ok rfl) m_sorted (a_one (p_nm 4 (B 4 rfl)))) (p_cb cr_sortedA (sortA_ok rfl) m_sorted (a_one (p_lc (own := [("_law_job", 14)]) (g := .nm 14)  rfl nd (i_any (p_nm 2 (B 2 rfl))) (blkOk_by (N := ["_law_script", "_law_pool_here", "_law_jobs_here", "_law_found", "_law_names", "_law_spans", "_law_k", "_law_speed", "_law_own", "_law_times", "_law_length", "_law_work", "_law_start", "_law_stop", "_law_job"]) (sc := defScope s_law) (by decide +kernel)) (W _ rfl) (LL _ rfl) (by decide) (fun _ _ _ _ _ => (g_nm 14 nd (L 14 rfl))) (fun _ _ _ _ _ => ts_nil) (fun _ _ _ _ _ => (p_ix (p_nmC 14) p_int)))))) (ss_one (s_ret p_bl)) ss_nil)
      (ss_cons (s_set 5 nd (p_cb cr_sortedA (sortA_ok rfl) m_sorted (a_one (p_nm 5 (B 5 rfl)))) (L 5 rfl))
      (ss_cons (s_for PassesOwn.never rfl (i_rng1 m_range (a_one (p_op (p_len m_len (a_one (p_nm 5 (B 5 rfl)))) p_int))) (g_nm 6 nd (L 6 rfl)) (ss_one (s_if (t_cmp hu (p_ix (p_ix (p_nm 5 (B 5 rfl)) (p_nm 6 (B 6 rfl))) p_int) (p_ix (p_ix (p_nm 5 (B 5 rfl)) (p_op (p_nm 6 (B 6 rfl)) p_int)) p_int)) (ss_one (s_ret p_bl)) ss_nil)))
      (ss_one (s_ret (p_cmp hu (p_len m_len (a_one (p_lc (own := [("_law_job", 14)]) (g := .nm 14)  rfl nd (i_any (p_nm 2 (B 2 rfl))) (blkOk_by (N := ["_law_script", "_law_pool_here", "_law_jobs_here", "_law_found", "_law_names", "_law_spans", "_law_k", "_law_speed", "_law_own", "_law_times", "_law_length", "_law_work", "_law_start", "_law_stop", "_law_job"]) (sc := defScope s_law) (by decide +kernel)) (W _ rfl) (LL _ rfl) (by decide) (fun _ _ _ _ _ => (g_nm 14 nd (L 14 rfl))) (fun _ _ _ _ _ => (ts_one (t_cmp hu (p_call [false, false] D__law_covered hr (by omega) (a_cons (p_nm 3 (B 3 rfl)) (a_one (p_nmC 14)))) (p_op (p_ix (p_nmC 14) p_int) (p_ix (p_nmC 14) p_int))))) (fun _ _ _ _ _ => (p_nmC 14))))) p_int)))))))))))))
end
set_option maxHeartbeats 4000000 in
theorem all_mk {l : PySem.W.OpenLaw} {w : World} {K : PySem.W.Frag} {h : Heap} {mg : Str → Option Value} {fa : Addr} (X : K.In h) (G : h.Ns mainGlobals mg) (hfa : mg "law" = some (.ref fa))
    {C_Scan : Addr}
    {f0 : Addr} {od0 an0 : Option Addr} {sl0 : Array (Option Value)} {oc0 kV0 dc0 pm0 cd0 ct0 : Value}
    {T0 : Addr} {ocT0 : Value} {odT0 : Option Addr} {slT0 : Array (Option Value)} {nT0 : Nat} {tk0_0 : Tok}
    {f1 : Addr} {od1 an1 : Option Addr} {sl1 : Array (Option Value)} {oc1 kV1 dc1 pm1 cd1 ct1 : Value}
    {f2 : Addr} {od2 an2 : Option Addr} {sl2 : Array (Option Value)} {oc2 kV2 dc2 pm2 cd2 ct2 : Value}
    {f3 : Addr} {od3 an3 : Option Addr} {sl3 : Array (Option Value)} {oc3 kV3 dc3 pm3 cd3 ct3 : Value}
    {f4 : Addr} {od4 an4 : Option Addr} {sl4 : Array (Option Value)} {oc4 kV4 dc4 pm4 cd4 ct4 : Value}
    {f5 : Addr} {od5 an5 : Option Addr} {sl5 : Array (Option Value)} {oc5 kV5 dc5 pm5 cd5 ct5 : Value}
    {f6 : Addr} {od6 an6 : Option Addr} {sl6 : Array (Option Value)} {oc6 kV6 dc6 pm6 cd6 ct6 : Value}
    {f7 : Addr} {od7 an7 : Option Addr} {sl7 : Array (Option Value)} {oc7 kV7 dc7 pm7 cd7 ct7 : Value}
    {f8 : Addr} {od8 an8 : Option Addr} {sl8 : Array (Option Value)} {oc8 kV8 dc8 pm8 cd8 ct8 : Value}
    {f9 : Addr} {od9 an9 : Option Addr} {sl9 : Array (Option Value)} {oc9 kV9 dc9 pm9 cd9 ct9 : Value}
    {f10 : Addr} {od10 an10 : Option Addr} {sl10 : Array (Option Value)} {oc10 kV10 dc10 pm10 cd10 ct10 : Value}
    {f11 : Addr} {od11 an11 : Option Addr} {sl11 : Array (Option Value)} {oc11 kV11 dc11 pm11 cd11 ct11 : Value}
    {f12 : Addr} {od12 an12 : Option Addr} {sl12 : Array (Option Value)} {oc12 kV12 dc12 pm12 cd12 ct12 : Value}
    {f13 : Addr} {od13 an13 : Option Addr} {sl13 : Array (Option Value)} {oc13 kV13 dc13 pm13 cd13 ct13 : Value}
    {f14 : Addr} {od14 an14 : Option Addr} {sl14 : Array (Option Value)} {oc14 kV14 dc14 pm14 cd14 ct14 : Value}
    {f15 : Addr} {od15 an15 : Option Addr} {sl15 : Array (Option Value)} {oc15 kV15 dc15 pm15 cd15 ct15 : Value}
    {f16 : Addr} {od16 an16 : Option Addr} {sl16 : Array (Option Value)} {oc16 kV16 dc16 pm16 cd16 ct16 : Value}
    {f17 : Addr} {od17 an17 : Option Addr} {sl17 : Array (Option Value)} {oc17 kV17 dc17 pm17 cd17 ct17 : Value}
    (aC_Scan : PySem.W.nsIn K mainGlobals "Scan" = some (some (.ref C_Scan)))
    (pg_Scan : PySem.W.plainGet K C_Scan Str.empty = true)
    (hd_Scan : PySem.W.hasDictIn K C_Scan = true)
    (po_Scan : PySem.W.plainOver K C_Scan = true)
    (sa_Scan : PySem.W.findIn K (.ref C_Scan) "__setattr__" = some (some (.builtin "object.__setattr__")))
    (mk_Scan : PySem.W.makesIn K C_Scan = true)
    (kc_Scan : PySem.W.keepIn K (.ref C_Scan) = true)
    (n_Scan_free : PySem.W.findIn K (.ref C_Scan) "free" = some none)
    (n_Scan_rows : PySem.W.findIn K (.ref C_Scan) "rows" = some none)
    (a0 : PySem.W.nsIn K mainGlobals "ratio" = some (some (.ref f0)))
    (l0 : K.lookup f0 = some ⟨oc0, od0, .func (PySem.W.fnOf "ratio" "ratio" (defArgs s_ratio) (defBody s_ratio) (defScope s_ratio) (.ref T0) kV0 dc0 pm0 an0 cd0 ct0), sl0⟩)
    (t0 : K.lookup T0 = some ⟨ocT0, odT0, .seq #[.int 1 tk0_0] nT0, slT0⟩)
    (c0 : PySem.W.codeIn K cd0 "ratio" = true)
    (k0 : PySem.W.keepIn K (.ref f0) = true)
    (a1 : PySem.W.nsIn K mainGlobals "free_part" = some (some (.ref f1)))
    (l1 : K.lookup f1 = some ⟨oc1, od1, .func (PySem.W.fnOf "free_part" "free_part" (defArgs s_free_part) (defBody s_free_part) (defScope s_free_part) .none kV1 dc1 pm1 an1 cd1 ct1), sl1⟩)
    (c1 : PySem.W.codeIn K cd1 "free_part" = true)
    (k1 : PySem.W.keepIn K (.ref f1) = true)
    (a2 : PySem.W.nsIn K mainGlobals "taken_away" = some (some (.ref f2)))
    (l2 : K.lookup f2 = some ⟨oc2, od2, .func (PySem.W.fnOf "taken_away" "taken_away" (defArgs s_taken_away) (defBody s_taken_away) (defScope s_taken_away) .none kV2 dc2 pm2 an2 cd2 ct2), sl2⟩)
    (c2 : PySem.W.codeIn K cd2 "taken_away" = true)
    (k2 : PySem.W.keepIn K (.ref f2) = true)
    (a3 : PySem.W.findIn K (.ref C_Scan) "__init__" = some (some (.ref f3)))
    (i3 : PySem.W.isFn K (.ref f3) = true)
    (l3 : K.lookup f3 = some ⟨oc3, od3, .func (PySem.W.fnOf "__init__" "Scan.__init__" (defArgs s_Scan___init__) (defBody s_Scan___init__) (defScope s_Scan___init__) .none kV3 dc3 pm3 an3 cd3 ct3), sl3⟩)
    (c3 : PySem.W.codeIn K cd3 "Scan.__init__" = true)
    (k3 : PySem.W.keepIn K (.ref f3) = true)
    (a4 : PySem.W.findIn K (.ref C_Scan) "load" = some (some (.ref f4)))
    (i4 : PySem.W.isFn K (.ref f4) = true)
    (l4 : K.lookup f4 = some ⟨oc4, od4, .func (PySem.W.fnOf "load" "Scan.load" (defArgs s_Scan_load) (defBody s_Scan_load) (defScope s_Scan_load) .none kV4 dc4 pm4 an4 cd4 ct4), sl4⟩)
    (c4 : PySem.W.codeIn K cd4 "Scan.load" = true)
    (k4 : PySem.W.keepIn K (.ref f4) = true)
    (a5 : PySem.W.findIn K (.ref C_Scan) "length" = some (some (.ref f5)))
    (i5 : PySem.W.isFn K (.ref f5) = true)
    (l5 : K.lookup f5 = some ⟨oc5, od5, .func (PySem.W.fnOf "length" "Scan.length" (defArgs s_Scan_length) (defBody s_Scan_length) (defScope s_Scan_length) .none kV5 dc5 pm5 an5 cd5 ct5), sl5⟩)
    (c5 : PySem.W.codeIn K cd5 "Scan.length" = true)
    (k5 : PySem.W.keepIn K (.ref f5) = true)
    (a6 : PySem.W.findIn K (.ref C_Scan) "densest" = some (some (.ref f6)))
    (i6 : PySem.W.isFn K (.ref f6) = true)
    (l6 : K.lookup f6 = some ⟨oc6, od6, .func (PySem.W.fnOf "densest" "Scan.densest" (defArgs s_Scan_densest) (defBody s_Scan_densest) (defScope s_Scan_densest) .none kV6 dc6 pm6 an6 cd6 ct6), sl6⟩)
    (c6 : PySem.W.codeIn K cd6 "Scan.densest" = true)
    (k6 : PySem.W.keepIn K (.ref f6) = true)
    (a7 : PySem.W.nsIn K mainGlobals "rounds_with" = some (some (.ref f7)))
    (l7 : K.lookup f7 = some ⟨oc7, od7, .func (PySem.W.fnOf "rounds_with" "rounds_with" (defArgs s_rounds_with) (defBody s_rounds_with) (defScope s_rounds_with) .none kV7 dc7 pm7 an7 cd7 ct7), sl7⟩)
    (c7 : PySem.W.codeIn K cd7 "rounds_with" = true)
    (k7 : PySem.W.keepIn K (.ref f7) = true)
    (a8 : PySem.W.nsIn K mainGlobals "with_ratios" = some (some (.ref f8)))
    (l8 : K.lookup f8 = some ⟨oc8, od8, .func (PySem.W.fnOf "with_ratios" "with_ratios" (defArgs s_with_ratios) (defBody s_with_ratios) (defScope s_with_ratios) .none kV8 dc8 pm8 an8 cd8 ct8), sl8⟩)
    (c8 : PySem.W.codeIn K cd8 "with_ratios" = true)
    (k8 : PySem.W.keepIn K (.ref f8) = true)
    (a9 : PySem.W.nsIn K mainGlobals "rounds" = some (some (.ref f9)))
    (l9 : K.lookup f9 = some ⟨oc9, od9, .func (PySem.W.fnOf "rounds" "rounds" (defArgs s_rounds) (defBody s_rounds) (defScope s_rounds) .none kV9 dc9 pm9 an9 cd9 ct9), sl9⟩)
    (c9 : PySem.W.codeIn K cd9 "rounds" = true)
    (k9 : PySem.W.keepIn K (.ref f9) = true)
    (a10 : PySem.W.nsIn K mainGlobals "_law_pool" = some (some (.ref f10)))
    (l10 : K.lookup f10 = some ⟨oc10, od10, .func (PySem.W.fnOf "_law_pool" "_law_pool" (defArgs s__law_pool) (defBody s__law_pool) (defScope s__law_pool) .none kV10 dc10 pm10 an10 cd10 ct10), sl10⟩)
    (c10 : PySem.W.codeIn K cd10 "_law_pool" = true)
    (k10 : PySem.W.keepIn K (.ref f10) = true)
    (a11 : PySem.W.nsIn K mainGlobals "_law_draw" = some (some (.ref f11)))
    (l11 : K.lookup f11 = some ⟨oc11, od11, .func (PySem.W.fnOf "_law_draw" "_law_draw" (defArgs s__law_draw) (defBody s__law_draw) (defScope s__law_draw) .none kV11 dc11 pm11 an11 cd11 ct11), sl11⟩)
    (c11 : PySem.W.codeIn K cd11 "_law_draw" = true)
    (k11 : PySem.W.keepIn K (.ref f11) = true)
    (a12 : PySem.W.nsIn K mainGlobals "_law_less" = some (some (.ref f12)))
    (l12 : K.lookup f12 = some ⟨oc12, od12, .func (PySem.W.fnOf "_law_less" "_law_less" (defArgs s__law_less) (defBody s__law_less) (defScope s__law_less) .none kV12 dc12 pm12 an12 cd12 ct12), sl12⟩)
    (c12 : PySem.W.codeIn K cd12 "_law_less" = true)
    (k12 : PySem.W.keepIn K (.ref f12) = true)
    (a13 : PySem.W.nsIn K mainGlobals "_law_name" = some (some (.ref f13)))
    (l13 : K.lookup f13 = some ⟨oc13, od13, .func (PySem.W.fnOf "_law_name" "_law_name" (defArgs s__law_name) (defBody s__law_name) (defScope s__law_name) .none kV13 dc13 pm13 an13 cd13 ct13), sl13⟩)
    (c13 : PySem.W.codeIn K cd13 "_law_name" = true)
    (k13 : PySem.W.keepIn K (.ref f13) = true)
    (a14 : PySem.W.nsIn K mainGlobals "_law_window" = some (some (.ref f14)))
    (l14 : K.lookup f14 = some ⟨oc14, od14, .func (PySem.W.fnOf "_law_window" "_law_window" (defArgs s__law_window) (defBody s__law_window) (defScope s__law_window) .none kV14 dc14 pm14 an14 cd14 ct14), sl14⟩)
    (c14 : PySem.W.codeIn K cd14 "_law_window" = true)
    (k14 : PySem.W.keepIn K (.ref f14) = true)
    (a15 : PySem.W.nsIn K mainGlobals "_law_jobs" = some (some (.ref f15)))
    (l15 : K.lookup f15 = some ⟨oc15, od15, .func (PySem.W.fnOf "_law_jobs" "_law_jobs" (defArgs s__law_jobs) (defBody s__law_jobs) (defScope s__law_jobs) .none kV15 dc15 pm15 an15 cd15 ct15), sl15⟩)
    (c15 : PySem.W.codeIn K cd15 "_law_jobs" = true)
    (k15 : PySem.W.keepIn K (.ref f15) = true)
    (a16 : PySem.W.nsIn K mainGlobals "_law_covered" = some (some (.ref f16)))
    (l16 : K.lookup f16 = some ⟨oc16, od16, .func (PySem.W.fnOf "_law_covered" "_law_covered" (defArgs s__law_covered) (defBody s__law_covered) (defScope s__law_covered) .none kV16 dc16 pm16 an16 cd16 ct16), sl16⟩)
    (c16 : PySem.W.codeIn K cd16 "_law_covered" = true)
    (k16 : PySem.W.keepIn K (.ref f16) = true)
    (a17 : PySem.W.nsIn K mainGlobals "law" = some (some (.ref f17)))
    (l17 : K.lookup f17 = some ⟨oc17, od17, .func (PySem.W.fnOf "law" "law" (defArgs s_law) (defBody s_law) (defScope s_law) .none kV17 dc17 pm17 an17 cd17 ct17), sl17⟩)
    (c17 : PySem.W.codeIn K cd17 "law" = true)
    (k17 : PySem.W.keepIn K (.ref f17) = true)
    (z_max : PySem.W.nsIn K mainGlobals "max" = some none)
    (z_min : PySem.W.nsIn K mainGlobals "min" = some none)
    (z_sum : PySem.W.nsIn K mainGlobals "sum" = some none)
    (z_sorted : PySem.W.nsIn K mainGlobals "sorted" = some none)
    (z_reversed : PySem.W.nsIn K mainGlobals "reversed" = some none)
    (z_tuple : PySem.W.nsIn K mainGlobals "tuple" = some none)
    (z_list : PySem.W.nsIn K mainGlobals "list" = some none)
    (z_int : PySem.W.nsIn K mainGlobals "int" = some none)
    (z_len : PySem.W.nsIn K mainGlobals "len" = some none)
    (z_abs : PySem.W.nsIn K mainGlobals "abs" = some none)
    (z_range : PySem.W.nsIn K mainGlobals "range" = some none)
    (z_gcd : PySem.W.nsIn K mainGlobals "gcd" = some (some (.builtin "math.gcd")))
    (z_lcm : PySem.W.nsIn K mainGlobals "lcm" = some (some (.builtin "math.lcm")))
    : ∃ fd : FuncData, (∀ (s : Shared) (v : Value), BindsTo s fd ⟨[v], []⟩ [("_law_script", v)]) ∧ ∀ base : Heap, K.In base → base.Ns mainGlobals mg → FnOk l.prog w K mg base CX0 6 fa fd ["_law_script"] (spL K) := by
  have e := hfa.symm.trans (PySem.W.mg_of X G a17)
  cases e
  have m_max := PySem.W.mg_none_of X G z_max
  have m_min := PySem.W.mg_none_of X G z_min
  have m_sum := PySem.W.mg_none_of X G z_sum
  have m_sorted := PySem.W.mg_none_of X G z_sorted
  have m_reversed := PySem.W.mg_none_of X G z_reversed
  have m_tuple := PySem.W.mg_none_of X G z_tuple
  have m_list := PySem.W.mg_none_of X G z_list
  have m_int := PySem.W.mg_none_of X G z_int
  have m_len := PySem.W.mg_none_of X G z_len
  have m_abs := PySem.W.mg_none_of X G z_abs
  have m_range := PySem.W.mg_none_of X G z_range
  have m_gcd := PySem.W.mg_of X G z_gcd
  have m_lcm := PySem.W.mg_of X G z_lcm
  have e_Scan : (fun x => if x = "Scan" then some C_Scan else none) "Scan" = some C_Scan := by
    show (if ("Scan" : Str) = "Scan" then some C_Scan else none) = _
    rw [if_pos rfl]
  have cl_Scan : Cls K C_Scan := ⟨pg_Scan, hd_Scan, po_Scan, sa_Scan⟩
  have A_Scan_free : AtOk K (fun x => if x = "Scan" then some C_Scan else none) "Scan" "free" := fun C h => by have h := e_Scan.symm.trans h; cases h; exact ⟨cl_Scan, n_Scan_free⟩
  have A_Scan_rows : AtOk K (fun x => if x = "Scan" then some C_Scan else none) "Scan" "rows" := fun C h => by have h := e_Scan.symm.trans h; cases h; exact ⟨cl_Scan, n_Scan_rows⟩
  have F0 : FunD K "ratio" "ratio" (defArgs s_ratio) (defBody s_ratio) (defScope s_ratio) [(V.int 1)] [] f0 _ := ⟨⟨_, _, _, _, _, _, _, _, _, _, rfl, l0, c0, .inr ⟨by simp, T0, _, _, _, rfl, t0, rfl, (.cons ⟨_, rfl⟩ .nil)⟩, .inl rfl⟩, k0⟩
  have g0 := PySem.W.mg_of X G a0
  have F1 := fun_mk (st := s_free_part) l1 c1 k1
  have b1 := F1.binds (ps := ["free", "begin", "end"]) fun _ _ _ _ _ _ us hl => match us, hl with | [_, _, _], _ => rfl
  have g1 := PySem.W.mg_of X G a1
  have F2 := fun_mk (st := s_taken_away) l2 c2 k2
  have b2 := F2.binds (ps := ["free", "begin", "end"]) fun _ _ _ _ _ _ us hl => match us, hl with | [_, _, _], _ => rfl
  have g2 := PySem.W.mg_of X G a2
  have F3 := fun_mk (st := s_Scan___init__) l3 c3 k3
  have b3 := F3.binds (ps := ["self", "jobs", "free"]) fun _ _ _ _ _ _ us hl => match us, hl with | [_, _, _], _ => rfl
  have F4 := fun_mk (st := s_Scan_load) l4 c4 k4
  have b4 := F4.binds (ps := ["self", "a", "b"]) fun _ _ _ _ _ _ us hl => match us, hl with | [_, _, _], _ => rfl
  have F5 := fun_mk (st := s_Scan_length) l5 c5 k5
  have b5 := F5.binds (ps := ["self", "a", "b"]) fun _ _ _ _ _ _ us hl => match us, hl with | [_, _, _], _ => rfl
  have F6 := fun_mk (st := s_Scan_densest) l6 c6 k6
  have b6 := F6.binds (ps := ["self"]) fun _ _ _ _ _ _ us hl => match us, hl with | [_], _ => rfl
  have F7 := fun_mk (st := s_rounds_with) l7 c7 k7
  have b7 := F7.binds (ps := ["jobs"]) fun _ _ _ _ _ _ us hl => match us, hl with | [_], _ => rfl
  have g7 := PySem.W.mg_of X G a7
  have F8 := fun_mk (st := s_with_ratios) l8 c8 k8
  have b8 := F8.binds (ps := ["jobs"]) fun _ _ _ _ _ _ us hl => match us, hl with | [_], _ => rfl
  have g8 := PySem.W.mg_of X G a8
  have F9 := fun_mk (st := s_rounds) l9 c9 k9
  have b9 := F9.binds (ps := ["jobs"]) fun _ _ _ _ _ _ us hl => match us, hl with | [_], _ => rfl
  have g9 := PySem.W.mg_of X G a9
  have F10 := fun_mk (st := s__law_pool) l10 c10 k10
  have b10 := F10.binds (ps := ["_law_script"]) fun _ _ _ _ _ _ us hl => match us, hl with | [_], _ => rfl
  have g10 := PySem.W.mg_of X G a10
  have F11 := fun_mk (st := s__law_draw) l11 c11 k11
  have b11 := F11.binds (ps := ["_law_pool_here", "_law_many"]) fun _ _ _ _ _ _ us hl => match us, hl with | [_, _], _ => rfl
  have g11 := PySem.W.mg_of X G a11
  have F12 := fun_mk (st := s__law_less) l12 c12 k12
  have b12 := F12.binds (ps := ["_law_a", "_law_b"]) fun _ _ _ _ _ _ us hl => match us, hl with | [_, _], _ => rfl
  have g12 := PySem.W.mg_of X G a12
  have F13 := fun_mk (st := s__law_name) l13 c13 k13
  have b13 := F13.binds (ps := ["_law_pool_here", "_law_index"]) fun _ _ _ _ _ _ us hl => match us, hl with | [_, _], _ => rfl
  have g13 := PySem.W.mg_of X G a13
  have F14 := fun_mk (st := s__law_window) l14 c14 k14
  have b14 := F14.binds (ps := ["_law_pool_here", "_law_wide"]) fun _ _ _ _ _ _ us hl => match us, hl with | [_, _], _ => rfl
  have g14 := PySem.W.mg_of X G a14
  have F15 := fun_mk (st := s__law_jobs) l15 c15 k15
  have b15 := F15.binds (ps := ["_law_pool_here", "_law_most"]) fun _ _ _ _ _ _ us hl => match us, hl with | [_, _], _ => rfl
  have g15 := PySem.W.mg_of X G a15
  have F16 := fun_mk (st := s__law_covered) l16 c16 k16
  have b16 := F16.binds (ps := ["_law_found", "_law_job"]) fun _ _ _ _ _ _ us hl => match us, hl with | [_, _], _ => rfl
  have g16 := PySem.W.mg_of X G a16
  have F17 := fun_mk (st := s_law) l17 c17 k17
  have b17 := F17.binds (ps := ["_law_script"]) fun _ _ _ _ _ _ us hl => match us, hl with | [_], _ => rfl
  have g17 := PySem.W.mg_of X G a17
  refine ⟨PySem.W.fnOf "law" "law" (defArgs s_law) (defBody s_law) (defScope s_law) .none kV17 dc17 pm17 an17 cd17 ct17, fun s v => .of_eq rfl, fun base _ _ => ?_⟩
  have D_ratio : DefOk l.prog w K (fun x => if x = "Scan" then some C_Scan else none) mg base "ratio" 2 [] 1 φ_ratio := by
    obtain ⟨ds, hv, hb⟩ := FunD.binds1 (ps := ["top", "bottom"]) F0 2 1 (by simp) rfl (fun _ _ _ _ _ _ _ us its hu hi => match us, its, hu, hi with | [_, _], [_], _, _ => ⟨_, rfl, rfl⟩)
    exact ⟨_, _, _, ds, _, g0, F0.kp, hb, hv, fun _ _ => Rps.nil, ok_ratio F0 m_gcd⟩
  have D_ratio_1 : DefOk l.prog w K (fun x => if x = "Scan" then some C_Scan else none) mg base "ratio" 2 [(.int 1)] 1 φ_ratio := by
    obtain ⟨ds, hv, hb⟩ := FunD.binds1 (ps := ["top", "bottom"]) F0 1 0 (by simp) rfl (fun _ _ _ _ _ _ _ us its hu hi => match us, its, hu, hi with | [_], [_], _, _ => ⟨_, rfl, rfl⟩)
    exact ⟨_, _, _, ds, _, g0, F0.kp, hb, hv, fun _ _ => Rps.cons (Rp.ofInt _) (Rps.nil), ok_ratio F0 m_gcd⟩
  have D_free_part : DefOk l.prog w K (fun x => if x = "Scan" then some C_Scan else none) mg base "free_part" 3 [] 1 φ_free_part := DefOk.mk' g1 F1.kp b1 (ok_free_part F1 m_max m_min) rfl
  have D_Scan_load : MethOk l.prog w K (fun x => if x = "Scan" then some C_Scan else none) mg base "Scan" "load" 3 [] 1 φ_Scan_load := ⟨fun C h => by have h := e_Scan.symm.trans h; cases h; exact ⟨_, _, _, [], [], cl_Scan, ⟨a4, i4, k4⟩, b4, .nil, fun _ _ => .nil, ok_Scan_load F4 m_sum A_Scan_rows⟩⟩
  have D__law_pool : DefOk l.prog w K (fun x => if x = "Scan" then some C_Scan else none) mg base "_law_pool" 1 [] 1 φ__law_pool := DefOk.mk' g10 F10.kp b10 (ok__law_pool F10 m_list) rfl
  have D__law_draw : DefOk l.prog w K (fun x => if x = "Scan" then some C_Scan else none) mg base "_law_draw" 2 [] 1 φ__law_draw := DefOk.mk' g11 F11.kp b11 (ok__law_draw F11 m_int m_len m_abs) rfl
  have D__law_less : DefOk l.prog w K (fun x => if x = "Scan" then some C_Scan else none) mg base "_law_less" 2 [] 1 φ__law_less := DefOk.mk' g12 F12.kp b12 (ok__law_less F12 ) rfl
  have D_taken_away : DefOk l.prog w K (fun x => if x = "Scan" then some C_Scan else none) mg base "taken_away" 3 [] 2 φ_taken_away := DefOk.mk' g2 F2.kp b2 (ok_taken_away F2 D_free_part) rfl
  have K_Scan : MakeOk l.prog w K (fun x => if x = "Scan" then some C_Scan else none) mg base "Scan" 3 [] 2 φ_Scan___init__ := ⟨_, _, _, _, [], [], e_Scan, PySem.W.mg_of X G aC_Scan, ⟨mk_Scan, a3, i3, kc_Scan⟩, b3, .nil, fun _ _ => .nil, ok_Scan___init__ F3 A_Scan_free A_Scan_rows D_free_part⟩
  have D_Scan_length : MethOk l.prog w K (fun x => if x = "Scan" then some C_Scan else none) mg base "Scan" "length" 3 [] 2 φ_Scan_length := ⟨fun C h => by have h := e_Scan.symm.trans h; cases h; exact ⟨_, _, _, [], [], cl_Scan, ⟨a5, i5, k5⟩, b5, .nil, fun _ _ => .nil, ok_Scan_length F5 m_sum A_Scan_free D_free_part⟩⟩
  have D_with_ratios : DefOk l.prog w K (fun x => if x = "Scan" then some C_Scan else none) mg base "with_ratios" 1 [] 2 φ_with_ratios := DefOk.mk' g8 F8.kp b8 (ok_with_ratios F8 D_ratio_1) rfl
  have D__law_name : DefOk l.prog w K (fun x => if x = "Scan" then some C_Scan else none) mg base "_law_name" 2 [] 2 φ__law_name := DefOk.mk' g13 F13.kp b13 (ok__law_name F13 D__law_draw) rfl
  have D__law_window : DefOk l.prog w K (fun x => if x = "Scan" then some C_Scan else none) mg base "_law_window" 2 [] 2 φ__law_window := DefOk.mk' g14 F14.kp b14 (ok__law_window F14 D__law_draw) rfl
  have D__law_covered : DefOk l.prog w K (fun x => if x = "Scan" then some C_Scan else none) mg base "_law_covered" 2 [] 2 φ__law_covered := DefOk.mk' g16 F16.kp b16 (ok__law_covered F16 D__law_less m_sum m_max m_min) rfl
  have D_Scan_densest : MethOk l.prog w K (fun x => if x = "Scan" then some C_Scan else none) mg base "Scan" "densest" 1 [] 3 φ_Scan_densest := ⟨fun C h => by have h := e_Scan.symm.trans h; cases h; exact ⟨_, _, _, [], [], cl_Scan, ⟨a6, i6, k6⟩, b6, .nil, fun _ _ => .nil, ok_Scan_densest F6 m_sorted A_Scan_rows m_reversed D_Scan_load D_Scan_length⟩⟩
  have D__law_jobs : DefOk l.prog w K (fun x => if x = "Scan" then some C_Scan else none) mg base "_law_jobs" 2 [] 3 φ__law_jobs := DefOk.mk' g15 F15.kp b15 (ok__law_jobs F15 D__law_draw m_range D__law_window D__law_name m_tuple) rfl
  have D_rounds_with : DefOk l.prog w K (fun x => if x = "Scan" then some C_Scan else none) mg base "rounds_with" 1 [] 4 φ_rounds_with := DefOk.mk' g7 F7.kp b7 (ok_rounds_with F7 m_lcm m_min m_max K_Scan D_Scan_densest m_tuple A_Scan_rows D_ratio D_free_part D_taken_away) rfl
  have D_rounds : DefOk l.prog w K (fun x => if x = "Scan" then some C_Scan else none) mg base "rounds" 1 [] 5 φ_rounds := DefOk.mk' g9 F9.kp b9 (ok_rounds F9 D_with_ratios D_rounds_with) rfl
  exact spL_of (cls := (fun x => if x = "Scan" then some C_Scan else none)) (ok_law F17 D__law_pool D__law_jobs D_rounds m_range m_len D__law_less m_list m_sum m_sorted D__law_covered)
end Pm
open PySem PySem.W PyProof.Rows
set_option maxRecDepth 100000 in
set_option maxHeartbeats 0 in
theorem PySem.Challenge.cw_sparewatts_k11_speeds_of_rounds_fall_holds : PySem.Challenge.rw_sparewatts_k11_speeds_of_rounds_fall.Holds := by
  w_on; o_law; k_head; (case hw => w_witness2)
  k_fill
  refine Pm.walk (l := PySem.Challenge.rw_sparewatts_k11_speeds_of_rounds_fall) (k := 6) rfl rfl ⟨rfl, by decide, by decide⟩ (fun w h Y => PySem.W.kIn_of Y) ?F
  case F =>
    intro w mg fa h KX G hmg
    refine' Pm.all_mk KX G hmg ?aC_Scan ?pg_Scan ?hd_Scan ?po_Scan ?sa_Scan ?mk_Scan ?kc_Scan ?n_Scan_free ?n_Scan_rows ?a0 ?l0 ?t0 ?c0 ?k0 ?a1 ?l1 ?c1 ?k1 ?a2 ?l2 ?c2 ?k2 ?a3 ?i3 ?l3 ?c3 ?k3 ?a4 ?i4 ?l4 ?c4 ?k4 ?a5 ?i5 ?l5 ?c5 ?k5 ?a6 ?i6 ?l6 ?c6 ?k6 ?a7 ?l7 ?c7 ?k7 ?a8 ?l8 ?c8 ?k8 ?a9 ?l9 ?c9 ?k9 ?a10 ?l10 ?c10 ?k10 ?a11 ?l11 ?c11 ?k11 ?a12 ?l12 ?c12 ?k12 ?a13 ?l13 ?c13 ?k13 ?a14 ?l14 ?c14 ?k14 ?a15 ?l15 ?c15 ?k15 ?a16 ?l16 ?c16 ?k16 ?a17 ?l17 ?c17 ?k17 ?z_max ?z_min ?z_sum ?z_sorted ?z_reversed ?z_tuple ?z_list ?z_int ?z_len ?z_abs ?z_range ?z_gcd ?z_lcm
    (case aC_Scan => k_is)
    (case pg_Scan => k_is)
    (case hd_Scan => k_is)
    (case po_Scan => k_is)
    (case sa_Scan => k_is)
    (case mk_Scan => k_is)
    (case kc_Scan => k_is)
    (case n_Scan_free => k_is)
    (case n_Scan_rows => k_is)
    (case a0 => k_is)
    (case l0 => k_is)
    (case t0 => k_is)
    (case c0 => k_is)
    (case k0 => k_is)
    (case a1 => k_is)
    (case l1 => k_is)
    (case c1 => k_is)
    (case k1 => k_is)
    (case a2 => k_is)
    (case l2 => k_is)
    (case c2 => k_is)
    (case k2 => k_is)
    (case a3 => k_is)
    (case i3 => k_is)
    (case l3 => k_is)
    (case c3 => k_is)
    (case k3 => k_is)
    (case a4 => k_is)
    (case i4 => k_is)
    (case l4 => k_is)
    (case c4 => k_is)
    (case k4 => k_is)
    (case a5 => k_is)
    (case i5 => k_is)
    (case l5 => k_is)
    (case c5 => k_is)
    (case k5 => k_is)
    (case a6 => k_is)
    (case i6 => k_is)
    (case l6 => k_is)
    (case c6 => k_is)
    (case k6 => k_is)
    (case a7 => k_is)
    (case l7 => k_is)
    (case c7 => k_is)
    (case k7 => k_is)
    (case a8 => k_is)
    (case l8 => k_is)
    (case c8 => k_is)
    (case k8 => k_is)
    (case a9 => k_is)
    (case l9 => k_is)
    (case c9 => k_is)
    (case k9 => k_is)
    (case a10 => k_is)
    (case l10 => k_is)
    (case c10 => k_is)
    (case k10 => k_is)
    (case a11 => k_is)
    (case l11 => k_is)
    (case c11 => k_is)
    (case k11 => k_is)
    (case a12 => k_is)
    (case l12 => k_is)
    (case c12 => k_is)
    (case k12 => k_is)
    (case a13 => k_is)
    (case l13 => k_is)
    (case c13 => k_is)
    (case k13 => k_is)
    (case a14 => k_is)
    (case l14 => k_is)
    (case c14 => k_is)
    (case k14 => k_is)
    (case a15 => k_is)
    (case l15 => k_is)
    (case c15 => k_is)
    (case k15 => k_is)
    (case a16 => k_is)
    (case l16 => k_is)
    (case c16 => k_is)
    (case k16 => k_is)
    (case a17 => k_is)
    (case l17 => k_is)
    (case c17 => k_is)
    (case k17 => k_is)
    (case z_max => k_is)
    (case z_min => k_is)
    (case z_sum => k_is)
    (case z_sorted => k_is)
    (case z_reversed => k_is)
    (case z_tuple => k_is)
    (case z_list => k_is)
    (case z_int => k_is)
    (case z_len => k_is)
    (case z_abs => k_is)
    (case z_range => k_is)
    (case z_gcd => k_is)
    (case z_lcm => k_is)
