import PyProof.Rows.All
import Wide.All
import OpenK.AllK
import Wide.FinOn
import HandS.ForMost
import HandS.IsInst
import HandS.Exc
import HandS.ExcOwn
import HandS.WordsExc
import HandS.ExcInit
import HandS.Wide
import HandS.FStr
import HandS.ClsMeth
import KE.KOpsOwn
import HandS.RaiseMore
import HandS.SlotsOwn
import KE.KCallOwn
import PyProof.InstEq
import HandS.TryOnly
import PyProof.ExcBaseAll.ValueError
import KE.KExcSuper
import HandS.ExcField
import HandS.TryMany
import PyProof.FactsInt
import HandS.OwnEq
import KE.KExcIs
import HandS.ExcValue
import HandS.ExcIs
import KE.KDictDisplayH
import PySem.Challenge.RW_newsdeeds_k01_errors
set_option Elab.async false
set_option linter.all false
set_option maxRecDepth 100000
set_option maxHeartbeats 4000000
set_option exponentiation.threshold 2000
namespace Mi
open PySem PySem.Spec PyProof.Rows L2

/-- a value as a tree; cel: a thing that is changed -/
inductive U where
  | non | bl (b : Bool) | int (i : Int) | str (s : Str)
  | cel (n : Nat)
  | tup (xs : List U) | lst (xs : List U) | slst (xs : List U)
  | dK (ks : List Key) (xs : List U) | dT (ks : List (List Key)) (xs : List U)
  | obj (C : Nat) (ns : List Str) (xs : List U)
  | ty (C : Nat)
  | exv
  | err (C : Nat) (ns : List Str) (xs : List U)
inductive Cell where
  | lst (xs : List U) | ins (C : Nat) (ns : List Str) (xs : List U)
  | dK (ks : List Key) (xs : List U) | dT (ks : List (List Key)) (xs : List U) | dead
/-- a caught exception: its address, its dict, the class, the fields -/
structure Exa where
  a : Addr
  d : Addr
  C : Nat
  ns : List Str
  xs : List U
  vs : List V
structure Gc where
  K : PySem.W.Frag
  mg : Str → Option Value
  cls : Nat → Addr
  exa : Option Exa
structure Wd where
  ρ : Nat → Option Addr
  fz : Hp
  ex : Option Addr
abbrev Cs := List Cell
abbrev T := List (Option U)
structure Ext (w w' : Wd) : Prop where
  fz : ∀ a o, w.fz a = some o → w'.fz a = some o
  ρ : ∀ i a, w.ρ i = some a → w'.ρ i = some a
  ex : w'.ex = w.ex
theorem Ext.refl (w : Wd) : Ext w w := ⟨fun _ _ h => h, fun _ _ h => h, rfl⟩
theorem Ext.trans {a b c : Wd} (h : Ext a b) (k : Ext b c) : Ext a c := ⟨fun x o e => k.fz x o (h.fz x o e), fun i x e => k.ρ i x (h.ρ i x e), k.ex.trans h.ex⟩
/-- a list that may be one of the module's own or the script -/
theorem SqL.up {K : PySem.W.Frag} {H H' : Hp} {a : Addr} {xs : List V} (h : ∀ a o, H a = some o → H' a = some o) (s : SqL K H a xs) : SqL K H' a xs := by
  rcases s with (s | ⟨o, s⟩) | s
  · exact .inl (.inl (h _ _ s))
  · exact .inl (.inr ⟨o, h _ _ s⟩)
  · exact .inr s
theorem SqT.up {K : PySem.W.Frag} {H H' : Hp} {a : Addr} {xs : List V} (h : ∀ a o, H a = some o → H' a = some o) (s : SqT K H a xs) : SqT K H' a xs := by
  rcases s with (s | ⟨o, s⟩) | s
  · exact .inl (.inl (h _ _ s))
  · exact .inl (.inr ⟨o, h _ _ s⟩)
  · exact .inr s
/-- an error kept as a value: its object at a, its dict (none | at dx) with the fields fs -/
def ErQ (fz : Hp) (a C : Addr) (dx : Option Addr) (fs : List (Str × V)) : Prop := fz a = some (exo a C dx) ∧ (∀ d, dx = some d → fz d = some (exd d fs)) ∧ (dx = none → fs = [])
theorem ErQ.up {fz fz' : Hp} {a C : Addr} {dx : Option Addr} {fs : List (Str × V)} (h : ∀ a o, fz a = some o → fz' a = some o) (q : ErQ fz a C dx fs) : ErQ fz' a C dx fs := ⟨h _ _ q.1, fun d e => h _ _ (q.2.1 d e), q.2.2⟩
mutual
def UV (g : Gc) (w : Wd) : U → V → Prop
  | .non, v => v = .non
  | .bl b, v => v = .bl b
  | .int i, v => v = .int i
  | .str s, v => v = .str s
  | .cel n, v => ∃ a, w.ρ n = some a ∧ v = .ref a
  | .tup xs, v => ∃ a vs, v = .ref a ∧ w.fz a = some (.tup vs) ∧ UVs g w xs vs
  | .lst xs, v => ∃ a vs, v = .ref a ∧ w.fz a = some (.lst vs) ∧ UVs g w xs vs
  | .slst xs, v => ∃ a vs, v = .ref a ∧ SqL g.K w.fz a vs ∧ UVs g w xs vs
  | .dK ks xs, v => ∃ a vs, v = .ref a ∧ w.fz a = some (.dK (ks.zip vs)) ∧ ks.length = vs.length ∧ UVs g w xs vs
  | .dT ks xs, v => ∃ a vs, v = .ref a ∧ w.fz a = some (.dT (ks.zip vs)) ∧ ks.length = vs.length ∧ UVs g w xs vs
  | .obj C ns xs, v => ∃ a dx vs, v = .ref a ∧ w.fz a = some (.ins (g.cls C) dx (ns.zip vs)) ∧ ns.length = vs.length ∧ UVs g w xs vs
  | .ty C, v => v = .ref (g.cls C)
  | .exv, v => ∃ a, w.ex = some a ∧ v = .ref a
  | .err C ns xs, v => ∃ a dx vs, v = .ref a ∧ ErQ w.fz a (g.cls C) dx (ns.zip vs) ∧ ns.length = vs.length ∧ UVs g w xs vs
def UVs (g : Gc) (w : Wd) : List U → List V → Prop
  | [], vs => vs = []
  | x :: xs, vs => ∃ v r, vs = v :: r ∧ UV g w x v ∧ UVs g w xs r
end
section
variable {g : Gc} {w w' : Wd}
mutual
theorem UV.up (h : Ext w w') : ∀ {u : U} {v : V}, UV g w u v → UV g w' u v
  | .non, _, r => r
  | .bl _, _, r => r
  | .int _, _, r => r
  | .str _, _, r => r
  | .cel _, _, ⟨a, e, q⟩ => ⟨a, h.ρ _ _ e, q⟩
  | .tup _, _, ⟨a, vs, e, q, r⟩ => ⟨a, vs, e, h.fz _ _ q, UVs.up h r⟩
  | .lst _, _, ⟨a, vs, e, q, r⟩ => ⟨a, vs, e, h.fz _ _ q, UVs.up h r⟩
  | .slst _, _, ⟨a, vs, e, q, r⟩ => ⟨a, vs, e, SqL.up h.fz q, UVs.up h r⟩
  | .dK _ _, _, ⟨a, vs, e, q, l, r⟩ => ⟨a, vs, e, h.fz _ _ q, l, UVs.up h r⟩
  | .dT _ _, _, ⟨a, vs, e, q, l, r⟩ => ⟨a, vs, e, h.fz _ _ q, l, UVs.up h r⟩
  | .obj _ _ _, _, ⟨a, dx, vs, e, q, l, r⟩ => ⟨a, dx, vs, e, h.fz _ _ q, l, UVs.up h r⟩
  | .ty _, _, r => r
  | .exv, _, ⟨a, e, q⟩ => ⟨a, h.ex.trans e, q⟩
  | .err _ _ _, _, ⟨a, dx, vs, e, q, l, r⟩ => ⟨a, dx, vs, e, q.up h.fz, l, UVs.up h r⟩
theorem UVs.up (h : Ext w w') : ∀ {us : List U} {vs : List V}, UVs g w us vs → UVs g w' us vs
  | [], _, r => r
  | _ :: _, _, ⟨v, r, e, q, t⟩ => ⟨v, r, e, UV.up h q, UVs.up h t⟩
end
theorem UVs.length : ∀ {us : List U} {vs : List V}, UVs g w us vs → us.length = vs.length
  | [], _, r => by cases (show _ = [] from r); rfl
  | _ :: us, _, ⟨v, r, e, _, t⟩ => by subst e; rw [List.length_cons, List.length_cons, UVs.length t]
theorem UVs.get : ∀ {us : List U} {vs : List V} {i : Nat} {u : U}, UVs g w us vs → us[i]? = some u → ∃ v, vs[i]? = some v ∧ UV g w u v
  | [], _, _, _, _, h => by simp at h
  | _ :: us, _, 0, u, ⟨v, r, e, q, t⟩, h => by
    subst e; simp at h; subst h; exact ⟨v, rfl, q⟩
  | _ :: us, _, i + 1, u, ⟨v, r, e, q, t⟩, h => by
    subst e; simpa using UVs.get (i := i) t (by simpa using h)
theorem UVs.get' : ∀ {us : List U} {vs : List V} {i : Nat} {v : V}, UVs g w us vs → vs[i]? = some v → ∃ u, us[i]? = some u ∧ UV g w u v
  | [], _, _, _, r, h => by cases (show _ = [] from r); simp at h
  | x :: us, _, 0, u, ⟨v, r, e, q, t⟩, h => by
    subst e; simp at h; subst h; exact ⟨x, rfl, q⟩
  | _ :: us, _, i + 1, u, ⟨v, r, e, q, t⟩, h => by
    subst e; simpa using UVs.get' (i := i) t (by simpa using h)
theorem UVs.app : ∀ {us us' : List U} {vs vs' : List V}, UVs g w us vs → UVs g w us' vs' → UVs g w (us ++ us') (vs ++ vs')
  | [], _, _, _, r, s => by cases (show _ = [] from r); exact s
  | _ :: us, _, _, _, ⟨v, r, e, q, t⟩, s => by subst e; exact ⟨v, _, rfl, q, UVs.app t s⟩
theorem UVs.one {u : U} {v : V} (h : UV g w u v) : UVs g w [u] [v] := ⟨v, [], rfl, h, rfl⟩
theorem UVs.set : ∀ {us : List U} {vs : List V} {u : U} {v : V} (i : Nat), UVs g w us vs → UV g w u v → UVs g w (us.set i u) (vs.set i v)
  | [], _, _, _, _, r, _ => by cases (show _ = [] from r); exact rfl
  | _ :: us, _, u, v, 0, ⟨v', r, e, q, t⟩, h => by subst e; exact ⟨v, r, rfl, h, t⟩
  | _ :: us, _, u, v, i + 1, ⟨v', r, e, q, t⟩, h => by subst e; exact ⟨v', _, rfl, q, UVs.set i t h⟩
theorem UVs.drop : ∀ {us : List U} {vs : List V} (n : Nat), UVs g w us vs → UVs g w (us.drop n) (vs.drop n)
  | _, _, 0, r => r
  | [], _, _ + 1, r => by cases (show _ = [] from r); exact rfl
  | _ :: us, _, n + 1, ⟨v', r, e, q, t⟩ => by subst e; exact UVs.drop n t
theorem UVs.take : ∀ {us : List U} {vs : List V} (n : Nat), UVs g w us vs → UVs g w (us.take n) (vs.take n)
  | _, _, 0, _ => rfl
  | [], _, _ + 1, r => by cases (show _ = [] from r); exact rfl
  | _ :: us, _, n + 1, ⟨v', r, e, q, t⟩ => by subst e; exact ⟨v', _, rfl, q, UVs.take n t⟩
end

def CellOk (g : Gc) (w : Wd) (H : Hp) (a : Addr) : Cell → Prop
  | .lst xs => ∃ vs, H a = some (.lst vs) ∧ UVs g w xs vs
  | .ins C ns xs => ∃ dx vs, H a = some (.ins (g.cls C) dx (ns.zip vs)) ∧ ns.length = vs.length ∧ UVs g w xs vs
  | .dK ks xs => ∃ vs, H a = some (.dK (ks.zip vs)) ∧ ks.length = vs.length ∧ UVs g w xs vs
  | .dT ks xs => ∃ vs, H a = some (.dT (ks.zip vs)) ∧ ks.length = vs.length ∧ UVs g w xs vs
  | .dead => ∃ o, w.fz a = some o
def isDead : Cell → Bool
  | .dead => true
  | _ => false
structure HRel (g : Gc) (w : Wd) (c : Cs) (H : Hp) : Prop where
  fz : ∀ a o, w.fz a = some o → H a = some o
  cel : ∀ i cl, c[i]? = some cl → ∃ a, w.ρ i = some a ∧ CellOk g w H a cl ∧ (isDead cl = false → w.fz a = none)
  out : ∀ i, c.length ≤ i → w.ρ i = none
  inj : ∀ i j a, w.ρ i = some a → w.ρ j = some a → i = j
  xv : ∀ q, g.exa = some q → w.ex = some q.a ∧ w.fz q.d = some (.xd (q.ns.zip q.vs)) ∧ q.ns.length = q.vs.length ∧ UVs g w q.xs q.vs
  xn : g.exa = none → w.ex = none
theorem CellOk.there {g : Gc} {w : Wd} {H : Hp} {a : Addr} {cl : Cell} (hf : ∀ a o, w.fz a = some o → H a = some o) (h : CellOk g w H a cl) : ∃ o, H a = some o := by
  cases cl with
  | lst xs => obtain ⟨vs, e, _⟩ := h; exact ⟨_, e⟩
  | ins C ns xs => obtain ⟨dx, vs, e, _⟩ := h; exact ⟨_, e⟩
  | dK ks xs => obtain ⟨vs, e, _⟩ := h; exact ⟨_, e⟩
  | dT ks xs => obtain ⟨vs, e, _⟩ := h; exact ⟨_, e⟩
  | dead => obtain ⟨o, e⟩ := h; exact ⟨o, hf _ _ e⟩
theorem CellOk.step {g : Gc} {w w' : Wd} {H H' : Hp} {a : Addr} {cl : Cell} (e : Ext w w') (k : H' a = H a) (h : CellOk g w H a cl) : CellOk g w' H' a cl := by
  cases cl with
  | lst xs => obtain ⟨vs, q, r⟩ := h; exact ⟨vs, k.trans q, r.up e⟩
  | ins C ns xs => obtain ⟨dx, vs, q, l, r⟩ := h; exact ⟨dx, vs, k.trans q, l, r.up e⟩
  | dK ks xs => obtain ⟨vs, q, l, r⟩ := h; exact ⟨vs, k.trans q, l, r.up e⟩
  | dT ks xs => obtain ⟨vs, q, l, r⟩ := h; exact ⟨vs, k.trans q, l, r.up e⟩
  | dead => obtain ⟨o, q⟩ := h; exact ⟨o, e.fz _ _ q⟩
section
variable {g : Gc} {w w' : Wd} {c : Cs} {H : Hp}
theorem HRel.xvs (h : HRel g w c H) (e : Ext w w') : ∀ q, g.exa = some q → w'.ex = some q.a ∧ w'.fz q.d = some (.xd (q.ns.zip q.vs)) ∧ q.ns.length = q.vs.length ∧ UVs g w' q.xs q.vs := fun q hq =>
  let ⟨a, b, l, r⟩ := h.xv q hq
  ⟨e.ex.trans a, e.fz _ _ b, l, r.up e⟩
theorem HRel.xns (h : HRel g w c H) (e : Ext w w') : g.exa = none → w'.ex = none := fun q => e.ex.trans (h.xn q)
theorem HRel.ρ_lt (h : HRel g w c H) {i : Nat} {a : Addr} (e : w.ρ i = some a) : i < c.length := by
  rcases Nat.lt_or_ge i c.length with q | q
  · exact q
  · rw [h.out i q] at e; cases e
theorem HRel.ρ_there (h : HRel g w c H) {i : Nat} {a : Addr} (e : w.ρ i = some a) : ∃ o, H a = some o := by
  have hl := h.ρ_lt e
  obtain ⟨a', e', k, _⟩ := h.cel i c[i] (by simp [hl])
  rw [e] at e'; cases e'
  exact k.there h.fz
/-- a new thing, never changed -/
theorem HRel.newF (h : HRel g w c H) {p : Addr} {o : HO} (hp : H p = none) : HRel g ⟨w.ρ, upd w.fz p o, w.ex⟩ c (upd H p o) ∧ Ext w ⟨w.ρ, upd w.fz p o, w.ex⟩ := by
  have nfz : ∀ a o', w.fz a = some o' → a ≠ p := fun a o' e => ne_of_none (h.fz a o' e) hp
  have ex : Ext w ⟨w.ρ, upd w.fz p o, w.ex⟩ := ⟨fun a o' e => (upd_ne (nfz a o' e)).trans e, fun _ _ e => e, rfl⟩
  refine ⟨⟨fun a o' e => ?_, fun i cl e => ?_, h.out, h.inj, h.xvs ex, h.xns ex⟩, ex⟩
  · by_cases q : a = p
    · subst q
      have e' : upd w.fz a o a = some o' := e
      rw [upd_same] at e' ⊢; exact e'
    · have e' : upd w.fz p o a = some o' := e
      rw [upd_ne q] at e' ⊢; exact h.fz a o' e'
  · obtain ⟨a, e1, k, f⟩ := h.cel i cl e
    obtain ⟨oa, ha⟩ := k.there h.fz
    have na : a ≠ p := ne_of_none ha hp
    exact ⟨a, e1, k.step ex (upd_ne na), fun d => (upd_ne na).trans (f d)⟩
theorem upd_ρ {ρ : Nat → Option Addr} {n : Nat} {p : Addr} {i : Nat} : (fun j => if j = n then some p else ρ j) i = if i = n then some p else ρ i := rfl
/-- a new cell -/
theorem HRel.newC (h : HRel g w c H) {p : Addr} {o : HO} {cl : Cell} (hp : H p = none) (d : isDead cl = false) (hc : ∀ w', Ext w w' → CellOk g w' (upd H p o) p cl) :
    HRel g ⟨fun j => if j = c.length then some p else w.ρ j, w.fz, w.ex⟩ (c ++ [cl]) (upd H p o) ∧ Ext w ⟨fun j => if j = c.length then some p else w.ρ j, w.fz, w.ex⟩ := by
  have ex : Ext w ⟨fun j => if j = c.length then some p else w.ρ j, w.fz, w.ex⟩ := ⟨fun a o' e => e, fun i a e => by
    have := h.ρ_lt e
    show (if i = c.length then some p else w.ρ i) = some a
    rw [if_neg (by omega)]; exact e, rfl⟩
  have np : ∀ {i a}, w.ρ i = some a → a ≠ p := fun e => by
    obtain ⟨o', q⟩ := h.ρ_there e
    exact ne_of_none q hp
  refine ⟨⟨fun a o' e => ?_, fun i cl' e => ?_, fun i hi => ?_, fun i j a e1 e2 => ?_, h.xvs ex, h.xns ex⟩, ex⟩
  · exact (upd_ne (ne_of_none (h.fz a o' e) hp)).trans (h.fz a o' e)
  · by_cases q : i < c.length
    · rw [List.getElem?_append_left q] at e
      obtain ⟨a, e1, k, f⟩ := h.cel i cl' e
      exact ⟨a, ex.ρ i a e1, k.step ex (upd_ne (np e1)), f⟩
    · have hi : i = c.length := by
        have := (List.getElem?_eq_some_iff.mp e).1
        simp at this; omega
      subst hi
      rw [List.getElem?_append_right (Nat.le_refl _)] at e
      simp at e; subst e
      refine ⟨p, if_pos rfl, hc _ ex, fun _ => ?_⟩
      cases z : w.fz p with
      | none => rfl
      | some o' => have := h.fz p o' z; rw [hp] at this; cases this
  · rw [List.length_append, List.length_singleton] at hi
    show (if i = c.length then some p else w.ρ i) = none
    rw [if_neg (by omega)]; exact h.out i (by omega)
  · have e1' : (if i = c.length then some p else w.ρ i) = some a := e1
    have e2' : (if j = c.length then some p else w.ρ j) = some a := e2
    by_cases hi : i = c.length <;> by_cases hj : j = c.length
    · omega
    · rw [if_pos hi] at e1'; rw [if_neg hj] at e2'; cases e1'; exact absurd rfl (np e2')
    · rw [if_neg hi] at e1'; rw [if_pos hj] at e2'; cases e2'; exact absurd rfl (np e1')
    · rw [if_neg hi] at e1'; rw [if_neg hj] at e2'; exact h.inj i j a e1' e2'
/-- a cell is changed -/
theorem HRel.setC (h : HRel g w c H) {n : Nat} {a : Addr} {o : HO} {cl cl' : Cell} (hn : c[n]? = some cl') (d' : isDead cl' = false) (ha : w.ρ n = some a) (d : isDead cl = false) (hc : CellOk g w (upd H a o) a cl) : HRel g w (c.set n cl) (upd H a o) := by
  have hl : n < c.length := (List.getElem?_eq_some_iff.mp hn).1
  obtain ⟨a', e', _, f'⟩ := h.cel n cl' hn
  rw [ha] at e'; cases e'
  have fa := f' d'
  refine ⟨fun b o' e => ?_, fun i cl2 e => ?_, fun i hi => h.out i (by simpa using hi), h.inj, h.xv, h.xn⟩
  · have nb : b ≠ a := fun z => by subst z; rw [fa] at e; cases e
    exact (upd_ne nb).trans (h.fz b o' e)
  · by_cases hi : i = n
    · subst hi
      rw [List.getElem?_set_self hl] at e
      cases e
      exact ⟨a, ha, hc, fun _ => fa⟩
    · rw [List.getElem?_set_ne (Ne.symm hi)] at e
      obtain ⟨b, e1, k, f⟩ := h.cel i cl2 e
      have nb : b ≠ a := fun z => by subst z; exact hi (h.inj _ _ _ e1 ha)
      exact ⟨b, e1, k.step (Ext.refl w) (upd_ne nb), f⟩
end

/-- slots -/
structure SR (g : Gc) (w : Wd) (τ : T) (σ : L2.St) : Prop where
  len : τ.length = σ.length
  get : ∀ (i : Nat) (u : U), τ[i]? = some (some u) → ∃ v, σ[i]? = some (some v) ∧ UV g w u v
section
variable {g : Gc} {w w' : Wd} {τ : T} {σ : L2.St}
theorem SR.up (h : SR g w τ σ) (e : Ext w w') : SR g w' τ σ := ⟨h.len, fun i u q => let ⟨v, a, b⟩ := h.get i u q; ⟨v, a, b.up e⟩⟩
theorem SR.set (h : SR g w τ σ) {i : Nat} {u : U} {v : V} (r : UV g w u v) : SR g w (τ.set i (some u)) (σ.set i (some v)) := by
  refine ⟨by simpa using h.len, fun j u' q => ?_⟩
  by_cases hj : i = j
  · subst hj
    have hl : i < τ.length := by
      have := (List.getElem?_eq_some_iff.mp q).1
      simpa using this
    rw [List.getElem?_set_self hl] at q
    cases q
    exact ⟨v, List.getElem?_set_self (by rw [← h.len]; exact hl), r⟩
  · rw [List.getElem?_set_ne hj] at q ⊢
    exact h.get j u' q
theorem SR.none (h : SR g w τ σ) {i : Nat} : SR g w (τ.set i none) (σ.set i none) := by
  refine ⟨by simpa using h.len, fun j u' q => ?_⟩
  by_cases hj : i = j
  · subst hj
    have hl : i < τ.length := by
      have := (List.getElem?_eq_some_iff.mp q).1
      simpa using this
    rw [List.getElem?_set_self hl] at q
    cases q
  · rw [List.getElem?_set_ne hj] at q ⊢
    exact h.get j u' q
def wipeT (τ : T) : List Nat → T
  | [] => τ
  | v :: vs => (wipeT τ vs).set v none
theorem SR.wipe (h : SR g w τ σ) : ∀ vs : List Nat, SR g w (wipeT τ vs) (L2.wipe σ vs)
  | [] => h
  | _ :: vs => (SR.wipe h vs).none
end

/-! ### results -/
structure Ex where
  c : Nat
  ns : List Str
  xs : List U
def XV (g : Gc) (w : Wd) (H : Hp) (e : Ex) (cls : Value) (d : Option Addr) : Prop :=
  cls = .ref (g.cls e.c) ∧ ((e.ns = [] ∧ e.xs = []) ∨ ∃ da vs, d = some da ∧ H da = some (.xd (e.ns.zip vs)) ∧ e.ns.length = vs.length ∧ UVs g w e.xs vs)
inductive R (α : Type) where
  | ok (a : α) (c : Cs) | exc (e : Ex) (c : Cs) | bad
inductive RS where
  | nx (τ : T) (c : Cs) | ret (u : U) (c : Cs) | bk (τ : T) (c : Cs) | ct (τ : T) (c : Cs) | exc (e : Ex) (τ : T) (c : Cs) | bad
def R.bind {α β : Type} (r : R α) (k : α → Cs → R β) : R β := match r with
  | .ok a c => k a c
  | .exc e c => .exc e c
  | .bad => .bad
def R.bindS {α : Type} (r : R α) (τ : T) (k : α → Cs → RS) : RS := match r with
  | .ok a c => k a c
  | .exc e c => .exc e τ c
  | .bad => .bad
def RS.seq (r : RS) (k : T → Cs → RS) : RS := match r with
  | .nx τ c => k τ c
  | r => r
def ofO {α : Type} : Option (α × Cs) → R α
  | some (a, c) => .ok a c
  | none => .bad
@[simp] theorem bind_ok {α β : Type} (a : α) (c : Cs) (k : α → Cs → R β) : (R.ok a c).bind k = k a c := rfl
@[simp] theorem bind_exc {α β : Type} (e : Ex) (c : Cs) (k : α → Cs → R β) : (R.exc e c).bind k = .exc e c := rfl
@[simp] theorem bind_bad {α β : Type} (k : α → Cs → R β) : (R.bad : R α).bind k = .bad := rfl
@[simp] theorem bindS_ok {α : Type} (a : α) (τ : T) (c : Cs) (k : α → Cs → RS) : (R.ok a c).bindS τ k = k a c := rfl
@[simp] theorem bindS_exc {α : Type} (e : Ex) (τ : T) (c : Cs) (k : α → Cs → RS) : (R.exc e c : R α).bindS τ k = .exc e τ c := rfl
@[simp] theorem seq_nx (τ : T) (c : Cs) (k : T → Cs → RS) : (RS.nx τ c).seq k = k τ c := rfl
@[simp] theorem seq_ret (u : U) (c : Cs) (k : T → Cs → RS) : (RS.ret u c).seq k = .ret u c := rfl
@[simp] theorem seq_bk (τ : T) (c : Cs) (k : T → Cs → RS) : (RS.bk τ c).seq k = .bk τ c := rfl
@[simp] theorem seq_ct (τ : T) (c : Cs) (k : T → Cs → RS) : (RS.ct τ c).seq k = .ct τ c := rfl
@[simp] theorem seq_exc (e : Ex) (τ : T) (c : Cs) (k : T → Cs → RS) : (RS.exc e τ c).seq k = .exc e τ c := rfl
@[simp] theorem ofO_some {α : Type} (a : α) (c : Cs) : ofO (some (a, c)) = .ok a c := rfl

def Post (g : Gc) (w : Wd) (σ : L2.St) (Wx : WX) {α β : Type} (Rl : Wd → α → β → Prop) (Q : β → Hp → Prop) : R α → Prop
  | .ok a c' => ∀ w' b H', Ext w w' → HRel g w' c' H' → Rl w' a b → Q b H'
  | .exc e c' => ∀ w' cls d H', Ext w w' → HRel g w' c' H' → XV g w' H' e cls d → Wx cls d σ H'
  | .bad => False
def PostS (g : Gc) (w : Wd) (Wx : WX) (D : Ends) : RS → Prop
  | .nx τ c' => ∀ w' σ H', Ext w w' → HRel g w' c' H' → SR g w' τ σ → D.nx σ H'
  | .ret u c' => ∀ w' v H', Ext w w' → HRel g w' c' H' → UV g w' u v → D.rt v H'
  | .bk τ c' => ∀ w' σ H', Ext w w' → HRel g w' c' H' → SR g w' τ σ → D.bk σ H'
  | .ct τ c' => ∀ w' σ H', Ext w w' → HRel g w' c' H' → SR g w' τ σ → D.ct σ H'
  | .exc e τ c' => ∀ w' σ cls d H', Ext w w' → HRel g w' c' H' → SR g w' τ σ → XV g w' H' e cls d → Wx cls d σ H'
  | .bad => False
section
variable {g : Gc} {w w' : Wd} {σ : L2.St} {Wx : WX} {α β γ δ : Type} {Rl : Wd → α → β → Prop} {Q : β → Hp → Prop} {D : Ends} {τ : T} {c : Cs} {H : Hp}
theorem Post.up (e : Ext w w') : ∀ {r : R α}, Post g w σ Wx Rl Q r → Post g w' σ Wx Rl Q r
  | .ok _ _, h => fun w2 b H' x => h w2 b H' (e.trans x)
  | .exc _ _, h => fun w2 cl d H' x => h w2 cl d H' (e.trans x)
  | .bad, h => h
theorem PostS.up (e : Ext w w') : ∀ {r : RS}, PostS g w Wx D r → PostS g w' Wx D r
  | .nx _ _, h => fun w2 b H' x => h w2 b H' (e.trans x)
  | .ret _ _, h => fun w2 b H' x => h w2 b H' (e.trans x)
  | .bk _ _, h => fun w2 b H' x => h w2 b H' (e.trans x)
  | .ct _ _, h => fun w2 b H' x => h w2 b H' (e.trans x)
  | .exc _ _ _, h => fun w2 b cl d H' x => h w2 b cl d H' (e.trans x)
  | .bad, h => h
/-- the reading of a mirror -/
def rd (g : Gc) (Wx : WX) (Rl : Wd → α → β → Prop) (m : T → Cs → R α) (σ : L2.St) (H : Hp) (Q : β → Hp → Prop) : Prop :=
  ∃ w τ c, SR g w τ σ ∧ HRel g w c H ∧ Post g w σ Wx Rl Q (m τ c)
def rdS (g : Gc) (Wx : WX) (m : T → Cs → RS) (D : Ends) (σ : L2.St) (H : Hp) : Prop :=
  ∃ w τ c, SR g w τ σ ∧ HRel g w c H ∧ PostS g w Wx D (m τ c)
/-- THE STEP: a part's mirror, then what follows -/
theorem rd_bind {Rm : Wd → γ → δ → Prop} {m : T → Cs → R γ} {k : γ → Cs → R α} (h : Post g w σ Wx Rl Q ((m τ c).bind k)) (hs : SR g w τ σ) (hh : HRel g w c H) {Z : δ → Hp → Prop}
    (hk : ∀ a c1 w1 b H1, Ext w w1 → HRel g w1 c1 H1 → Rm w1 a b → SR g w1 τ σ → Post g w1 σ Wx Rl Q (k a c1) → Z b H1) : rd g Wx Rm m σ H Z := by
  refine ⟨w, τ, c, hs, hh, ?_⟩
  revert h
  cases m τ c with
  | ok a c1 => intro h w1 b H1 e h1 r; exact hk a c1 w1 b H1 e h1 r (hs.up e) (Post.up e h)
  | exc e c1 => exact fun h => h
  | bad => exact fun h => h
theorem rd_bindS {Rm : Wd → γ → δ → Prop} {m : T → Cs → R γ} {k : γ → Cs → RS} (h : PostS g w Wx D ((m τ c).bindS τ k)) (hs : SR g w τ σ) (hh : HRel g w c H) {Z : δ → Hp → Prop}
    (hk : ∀ a c1 w1 b H1, Ext w w1 → HRel g w1 c1 H1 → Rm w1 a b → SR g w1 τ σ → PostS g w1 Wx D (k a c1) → Z b H1) : rd g Wx Rm m σ H Z := by
  refine ⟨w, τ, c, hs, hh, ?_⟩
  revert h
  cases m τ c with
  | ok a c1 => intro h w1 b H1 e h1 r; exact hk a c1 w1 b H1 e h1 r (hs.up e) (PostS.up e h)
  | exc e c1 => exact fun h w1 cl d H1 x h1 v => h w1 σ cl d H1 x h1 (hs.up x) v
  | bad => exact fun h => h
end
end Mi
namespace Mi
open PySem PySem.Spec PyProof.Rows L2

section
variable {X : Cx}
theorem pe_imp {e : Expr} {t t' : TE} (h : PE X e t) (i : ∀ σ H Q, t' σ H Q → t σ H Q) : PE X e t' := ⟨fun pins s σ H Q I q => h.run pins s σ H Q I (i _ _ _ q)⟩
theorem pt_imp {e : Expr} {t t' : TT} (h : PT X e t) (i : ∀ σ H Q, t' σ H Q → t σ H Q) : PT X e t' := ⟨fun pins s σ H Q I q => h.run pins s σ H Q I (i _ _ _ q)⟩
theorem pw_imp {e : Expr} {t t' : TT} (h : PW X e t) (i : ∀ σ H Q, t' σ H Q → t σ H Q) : PW X e t' := ⟨fun wh pins s σ H Q I q => h.run wh pins s σ H Q I (i _ _ _ q)⟩
theorem pa_imp {e : List Expr} {t t' : TA} (h : PA X e t) (i : ∀ σ H Q, t' σ H Q → t σ H Q) : PA X e t' := ⟨fun p pins s σ H Q I q => h.run p pins s σ H Q I (i _ _ _ q)⟩
theorem po_imp {e : Option Expr} {t t' : TO} (h : PO X e t) (i : ∀ σ H Q, t' σ H Q → t σ H Q) : PO X e t' := ⟨fun pins s σ H Q I q => h.run pins s σ H Q I (i _ _ _ q)⟩
theorem ps_imp {e : Stmt} {t t' : TS} (h : PS X e t) (i : ∀ D σ H, t' D σ H → t D σ H) : PS X e t' := ⟨fun pins s σ H D I q => h.run pins s σ H D I (i _ _ _ q)⟩
theorem pss_imp {e : List Stmt} {t t' : TS} (h : PSs X e t) (i : ∀ D σ H, t' D σ H → t D σ H) : PSs X e t' := ⟨fun pins s σ H D I q => h.run pins s σ H D I (i _ _ _ q)⟩
end
abbrev ME := T → Cs → R U
abbrev MA := T → Cs → R (List U)
abbrev MT := T → Cs → R Bool
abbrev MO := T → Cs → R (Option Int)
abbrev MS := T → Cs → RS
abbrev Eqr {α : Type} : Wd → α → α → Prop := fun _ a b => a = b
abbrev DE (X : Cx) (g : Gc) (Wx : WX) (e : Expr) (m : ME) : Prop := PE X e (rd g Wx (UV g) m)
abbrev DT (X : Cx) (g : Gc) (Wx : WX) (e : Expr) (m : MT) : Prop := PT X e (rd g Wx Eqr m)
abbrev DW (X : Cx) (g : Gc) (Wx : WX) (e : Expr) (m : MT) : Prop := PW X e (rd g Wx Eqr m)
abbrev DA (X : Cx) (g : Gc) (Wx : WX) (es : List Expr) (m : MA) : Prop := PA X es (rd g Wx (UVs g) m)
abbrev DO (X : Cx) (g : Gc) (Wx : WX) (e : Option Expr) (m : MO) : Prop := PO X e (rd g Wx Eqr m)
abbrev DS (X : Cx) (g : Gc) (Wx : WX) (st : Stmt) (m : MS) : Prop := PS X st (rdS g Wx m)
abbrev DSs (X : Cx) (g : Gc) (Wx : WX) (st : List Stmt) (m : MS) : Prop := PSs X st (rdS g Wx m)

/-- what a mirrored step of values hands on -/
abbrev Then (g : Gc) (w : Wd) (z : U) (c' : Cs) (Q : VK) : Prop := ∀ w' b H', Ext w w' → HRel g w' c' H' → UV g w' z b → Q b H'
def CallU (g : Gc) (f : List U → Cs → Option (U × Cs)) (r : List V → Hp → VK → Prop) : Prop :=
  ∀ w c H us vs z c' Q, HRel g w c H → UVs g w us vs → f us c = some (z, c') → Then g w z c' Q → r vs H Q
def OpU (g : Gc) (f : U → U → Cs → Option (U × Cs)) (r : R2) : Prop :=
  ∀ w c H u v x y z c' Q, HRel g w c H → UV g w u x → UV g w v y → f u v c = some (z, c') → Then g w z c' Q → r x y H Q
section
variable {g : Gc} {w : Wd} {c : Cs} {H : Hp} {Q : VK} {σ : L2.St} {Wx : WX}
theorem Then.of_post {z : U} {c' : Cs} (h : Post g w σ Wx (UV g) Q (.ok z c')) : Then g w z c' Q := h
theorem Then.here {z : U} {b : V} (h : Then g w z c Q) (hh : HRel g w c H) (r : UV g w z b) : Q b H := h w b H (Ext.refl w) hh r
theorem Post.here {α β : Type} {Rl : Wd → α → β → Prop} {Q : β → Hp → Prop} {a : α} {b : β} (h : Post g w σ Wx Rl Q (.ok a c)) (hh : HRel g w c H) (r : Rl w a b) : Q b H := h w b H (Ext.refl w) hh r
/-- a new thing that is never changed -/
theorem Then.newF {z : U} {o : HO} (h : Then g w z c Q) (hh : HRel g w c H) (r : ∀ p w', Ext w w' → w'.fz p = some o → UV g w' z (.ref p)) : ∀ p, H p = none → Q (.ref p) (upd H p o) := fun p hp => by
  obtain ⟨h1, e1⟩ := hh.newF (o := o) hp
  exact h _ _ _ e1 h1 (r p _ e1 (by show upd w.fz p o p = _; exact upd_same))
/-- a new cell -/
theorem Then.newC {o : HO} {cl : Cell} (h : Then g w (.cel c.length) (c ++ [cl]) Q) (hh : HRel g w c H) (d : isDead cl = false) (r : ∀ p w', Ext w w' → CellOk g w' (upd H p o) p cl) : ∀ p, H p = none → Q (.ref p) (upd H p o) := fun p hp => by
  obtain ⟨h1, e1⟩ := hh.newC (o := o) (cl := cl) hp d (r p)
  exact h _ _ _ e1 h1 ⟨p, if_pos rfl, rfl⟩
end
/-- a new list: kept for good, or one that is to be changed -/
def mkL (mt : Bool) (xs : List U) (c : Cs) : U × Cs := if mt then (.cel c.length, c ++ [.lst xs]) else (.lst xs, c)
theorem mkL_done {g : Gc} {w : Wd} {c : Cs} {H : Hp} {Q : VK} {mt : Bool} {xs : List U} {vs : List V} (h : Then g w (mkL mt xs c).1 (mkL mt xs c).2 Q) (hh : HRel g w c H) (r : UVs g w xs vs) :
    ∀ p, H p = none → Q (.ref p) (upd H p (.lst vs)) := by
  cases mt with
  | false => exact Then.newF h hh fun p w' e q => ⟨p, vs, rfl, q, r.up e⟩
  | true => exact Then.newC h hh rfl fun p w' e => ⟨vs, upd_same, r.up e⟩

theorem mkL_done' {g : Gc} {w : Wd} {c : Cs} {H : Hp} {Q : VK} {mt : Bool} {xs : List U} {vs : List V} {z : U} {c' : Cs} (e : some (mkL mt xs c) = some (z, c')) (h : Then g w z c' Q) (hh : HRel g w c H) (r : UVs g w xs vs) :
    ∀ p, H p = none → Q (.ref p) (upd H p (.lst vs)) := by
  have e := Option.some.inj e
  refine mkL_done (mt := mt) (xs := xs) ?_ hh r
  rw [e]; exact h

/-! ### views -/
def lview (c : Cs) : U → Option (List U)
  | .lst xs => some xs
  | .slst xs => some xs
  | .cel n => match c[n]? with
    | some (.lst xs) => some xs
    | _ => none
  | _ => none
def lviewM (c : Cs) : U → Option (List U)
  | .lst xs => some xs
  | .cel n => match c[n]? with
    | some (.lst xs) => some xs
    | _ => none
  | _ => none
def tview : U → Option (List U)
  | .tup xs => some xs
  | _ => none
section
variable {g : Gc} {w : Wd} {c : Cs} {H : Hp} {u : U} {x : V} {xs : List U}
theorem lviewM_ok (hh : HRel g w c H) (r : UV g w u x) (e : lviewM c u = some xs) : ∃ a vs, x = .ref a ∧ H a = some (.lst vs) ∧ UVs g w xs vs := by
  cases u with
  | lst ys => cases e; obtain ⟨a, vs, e, q, r⟩ := r; exact ⟨a, vs, e, hh.fz _ _ q, r⟩
  | cel n =>
    obtain ⟨a, e1, rfl⟩ := r
    unfold lviewM at e
    dsimp only at e
    split at e
    · rename_i ys q
      cases e
      obtain ⟨a', e', k, _⟩ := hh.cel n _ q
      rw [e1] at e'; cases e'
      obtain ⟨vs, q1, q2⟩ := k
      exact ⟨a, vs, rfl, q1, q2⟩
    · cases e
  | _ => cases e
theorem lview_ok (hh : HRel g w c H) (r : UV g w u x) (e : lview c u = some xs) : ∃ a vs, x = .ref a ∧ SqL g.K H a vs ∧ UVs g w xs vs := by
  cases u with
  | slst ys => cases e; obtain ⟨a, vs, e, q, r⟩ := r; exact ⟨a, vs, e, SqL.up hh.fz q, r⟩
  | lst ys => obtain ⟨a, vs, h1, h2, h3⟩ := lviewM_ok (u := .lst ys) hh r e; exact ⟨a, vs, h1, SqL.of h2, h3⟩
  | cel n => obtain ⟨a, vs, h1, h2, h3⟩ := lviewM_ok (u := .cel n) hh r e; exact ⟨a, vs, h1, SqL.of h2, h3⟩
  | _ => cases e
theorem tview_ok (hh : HRel g w c H) (r : UV g w u x) (e : tview u = some xs) : ∃ a vs, x = .ref a ∧ H a = some (.tup vs) ∧ UVs g w xs vs := by
  cases u with
  | tup ys => cases e; obtain ⟨a, vs, e, q, r⟩ := r; exact ⟨a, vs, e, hh.fz _ _ q, r⟩
  | _ => cases e
end

/-! ### names, constants, operators -/
section
variable {X : Cx} {g : Gc} {Wx : WX} {e a b : Expr} {es : List Expr} {m n : ME} {pos p : Pos}
def mVar (i : Nat) : ME := fun τ c => match τ[i]? with
  | some (some u) => .ok u c
  | _ => .bad
theorem de_var {x : Str} (i : Nat) (h : PE X (.Name x pos) (tVar i)) : DE X g Wx (.Name x pos) (mVar i) := by
  refine pe_imp h fun σ H Q ⟨w, τ, c, hs, hh, q⟩ => ?_
  unfold mVar at q
  split at q
  · rename_i u e
    obtain ⟨v, e1, r⟩ := hs.get i u e
    exact ⟨v, e1, Post.here q hh r⟩
  · exact q.elim
def mC (u : U) : ME := fun _ c => .ok u c
theorem de_c {v : V} {u : U} (h : PE X e (tC v)) (hv : ∀ w, UV g w u v := by intro w; rfl) : DE X g Wx e (mC u) :=
  pe_imp h fun σ H Q ⟨w, τ, c, hs, hh, q⟩ => Post.here q hh (hv w)
def m1 (f : U → Cs → Option (U × Cs)) (m : ME) : ME := fun τ c => (m τ c).bind fun u c1 => ofO (f u c1)
def m2 (f : U → U → Cs → Option (U × Cs)) (m n : ME) : ME := fun τ c => (m τ c).bind fun u c1 => (n τ c1).bind fun v c2 => ofO (f u v c2)
theorem ofO_ok {α : Type} {w : Wd} {σ : L2.St} {β : Type} {Rl : Wd → α → β → Prop} {Q : β → Hp → Prop} {o : Option (α × Cs)} (h : Post g w σ Wx Rl Q (ofO o)) : ∃ z c', o = some (z, c') ∧ Post g w σ Wx Rl Q (.ok z c') := by
  cases o with
  | none => exact h.elim
  | some p => exact ⟨p.1, p.2, rfl, h⟩
theorem m2_run {f : U → U → Cs → Option (U × Cs)} {r : R2} (hf : OpU g f r) {w : Wd} {τ : T} {c : Cs} {σ : L2.St} {H : Hp} {Q : VK} (hs : SR g w τ σ) (hh : HRel g w c H) (q : Post g w σ Wx (UV g) Q (m2 f m n τ c)) :
    rd g Wx (UV g) m σ H fun x H1 => rd g Wx (UV g) n σ H1 fun y H2 => r x y H2 Q :=
  rd_bind q hs hh fun u c1 w1 x H1 e1 h1 r1 s1 q1 => rd_bind q1 s1 h1 fun v c2 w2 y H2 e2 h2 r2 s2 q2 => by
    obtain ⟨z, c', e, q3⟩ := ofO_ok q2
    exact hf w2 c2 H2 u v x y z c' Q h2 (r1.up e2) r2 e q3
theorem de_bin {op : Operator} {f : U → U → Cs → Option (U × Cs)} {r : R2} (ho : OpR X (binaryOp op) r) (hf : OpU g f r) (ha : DE X g Wx a m) (hb : DE X g Wx b n) : DE X g Wx (.BinOp a op b pos) (m2 f m n) :=
  pe_imp (pe_op ho ha hb) fun σ H Q ⟨w, τ, c, hs, hh, q⟩ => m2_run hf hs hh q
theorem de_cmp {op : CmpOp} {f : U → U → Cs → Option (U × Cs)} {r : R2} (ho : OpR X (compareOp op) r) (hf : OpU g f r) (ha : DE X g Wx a m) (hb : DE X g Wx b n) (hm : behindInMarks op b = false) : DE X g Wx (.Compare a [op] [b] pos) (m2 f m n) :=
  pe_imp (pe_cmpR ho ha hb hm) fun σ H Q ⟨w, τ, c, hs, hh, q⟩ => m2_run hf hs hh q
def fNeg (u : U) (c : Cs) : Option (U × Cs) := match u with
  | .int i => some (.int (-i), c)
  | _ => none
theorem de_neg (ha : DE X g Wx a m) : DE X g Wx (.UnaryOp .USub a pos) (m1 fNeg m) :=
  pe_imp (pe_un un_neg ha) fun σ H Q ⟨w, τ, c, hs, hh, q⟩ => rd_bind q hs hh fun u c1 w1 x H1 e1 h1 r1 s1 q1 => by
    obtain ⟨z, c', e, q3⟩ := ofO_ok q1
    cases u with
    | int i => cases e; cases (show x = _ from r1); exact ⟨i, rfl, Post.here q3 h1 rfl⟩
    | _ => cases e

/-! binary operators on ints, texts, lists -/
def fAdd (mt : Bool) (u v : U) (c : Cs) : Option (U × Cs) := match u, v with
  | .int i, .int j => some (.int (i + j), c)
  | .str a, .str b => if a.length + b.length ≤ sizeLine then some (.str (a ++ b), c) else none
  | u, v => (lviewM c u).bind fun xs => (lviewM c v).bind fun ys => if xs.length + ys.length ≤ sizeLine then some (mkL mt (xs ++ ys) c) else none
abbrev rAddS : R2 := fun x y H Q => ∃ i j, x = .str i ∧ y = .str j ∧ i.length + j.length ≤ sizeLine ∧ Q (.str (i ++ j)) H
abbrev rAddA : R2 := fun x y H Q => rI0 (fun i j => .int (i + j)) x y H Q ∨ (rAddS x y H Q ∨ rCat x y H Q)
theorem op_addA : OpR X (binaryOp .Add) rAddA := op_add.or (op_add_str.or op_cat)
theorem catL_u {mt : Bool} {w : Wd} {c : Cs} {H : Hp} {u v z : U} {x y : V} {c' : Cs} {Q : VK} (hh : HRel g w c H) (ru : UV g w u x) (rv : UV g w v y)
    (e : ((lviewM c u).bind fun xs => (lviewM c v).bind fun ys => if xs.length + ys.length ≤ sizeLine then some (mkL mt (xs ++ ys) c) else none) = some (z, c')) (h : Then g w z c' Q) : rCat x y H Q := by
  cases e1 : lviewM c u with
  | none => rw [e1] at e; cases e
  | some xs =>
    cases e2 : lviewM c v with
    | none => rw [e1, e2] at e; cases e
    | some ys =>
      rw [e1, e2] at e
      obtain ⟨l, vs, rfl, hl, r1⟩ := lviewM_ok hh ru e1
      obtain ⟨k, us, rfl, hk, r2⟩ := lviewM_ok hh rv e2
      by_cases z0 : xs.length + ys.length ≤ sizeLine
      · have e3 : (if xs.length + ys.length ≤ sizeLine then some (mkL mt (xs ++ ys) c) else none) = some (z, c') := e
        rw [if_pos z0] at e3
        exact ⟨l, k, vs, us, rfl, rfl, hl, hk, by rw [← r1.length, ← r2.length]; exact z0, mkL_done' e3 h hh (r1.app r2)⟩
      · have e3 : (if xs.length + ys.length ≤ sizeLine then some (mkL mt (xs ++ ys) c) else none) = some (z, c') := e
        rw [if_neg z0] at e3; cases e3
theorem add_u {mt : Bool} : OpU g (fAdd mt) rAddA := by
  intro w c H u v x y z c' Q hh ru rv e h
  unfold fAdd at e
  split at e
  · cases e
    cases (show x = _ from ru); cases (show y = _ from rv)
    exact .inl ⟨_, _, rfl, rfl, Then.here h hh rfl⟩
  · split at e
    · cases e
      cases (show x = _ from ru); cases (show y = _ from rv)
      exact .inr (.inl ⟨_, _, rfl, rfl, by assumption, Then.here h hh rfl⟩)
    · cases e
  · exact .inr (.inr (catL_u hh ru rv e h))
def fInt2 (f : Int → Int → Option U) (u v : U) (c : Cs) : Option (U × Cs) := match u, v with
  | .int i, .int j => (f i j).map fun z => (z, c)
  | _, _ => none
theorem int2_u {f : Int → Int → Option U} {r : R2} (k : ∀ i j z H Q, f i j = some z → (∀ b, (∀ w, UV g w z b) → Q b H) → r (.int i) (.int j) H Q) (hz : ∀ i j z, f i j = some z → ∃ b, ∀ w, UV g w z b) : OpU g (fInt2 f) r := by
  intro w c H u v x y z c' Q hh ru rv e h
  unfold fInt2 at e
  split at e
  · rename_i i j
    cases (show x = _ from ru); cases (show y = _ from rv)
    cases q : f i j with
    | none => rw [q] at e; cases e
    | some z' => rw [q] at e; cases e; exact k i j _ H Q q fun b hb => Then.here h hh (hb w)
  · cases e
def fSub := fInt2 fun i j => some (.int (i - j))
theorem sub_u : OpU g fSub (rI0 fun i j => .int (i - j)) := int2_u (fun i j z H Q e k => by cases e; exact ⟨i, j, rfl, rfl, k _ fun _ => rfl⟩) fun i j z e => by cases e; exact ⟨_, fun _ => rfl⟩
def fMod := fInt2 fun i j => if 0 < j then some (.int (i % j)) else none
theorem mod_u : OpU g fMod (rI (fun _ j => 0 < j) fun i j => .int (i % j)) := int2_u (fun i j z H Q e k => by
  split at e
  · cases e; exact ⟨i, j, rfl, rfl, by assumption, k _ fun _ => rfl⟩
  · cases e) fun i j z e => by
  split at e
  · cases e; exact ⟨_, fun _ => rfl⟩
  · cases e
def fDiv := fInt2 fun i j => if 0 < j ∧ j.natAbs.log2 < 9000 then some (.int (i / j)) else none
theorem div_u : OpU g fDiv (rI CDivW fun i j => .int (i / j)) := int2_u (fun i j z H Q e k => by
  split at e
  · cases e; exact ⟨i, j, rfl, rfl, by assumption, k _ fun _ => rfl⟩
  · cases e) fun i j z e => by
  split at e
  · cases e; exact ⟨_, fun _ => rfl⟩
  · cases e
def fPow := fInt2 fun i j => if 0 ≤ j ∧ j ≤ 1000000 ∧ i.natAbs < 2 ^ 64 then some (.int (i ^ j.toNat)) else none
theorem pow_u : OpU g fPow (rI CPow fun i j => .int (i ^ j.toNat)) := int2_u (fun i j z H Q e k => by
  split at e
  · cases e; exact ⟨i, j, rfl, rfl, by assumption, k _ fun _ => rfl⟩
  · cases e) fun i j z e => by
  split at e
  · cases e; exact ⟨_, fun _ => rfl⟩
  · cases e
def fCmp (f : Int → Int → Bool) := fInt2 fun i j => some (.bl (f i j))
theorem cmp_u (f : Int → Int → Bool) : OpU g (fCmp f) (rI0 fun i j => .bl (f i j)) := int2_u (fun i j z H Q e k => by cases e; exact ⟨i, j, rfl, rfl, k _ fun _ => rfl⟩) fun i j z e => by cases e; exact ⟨_, fun _ => rfl⟩
theorem mulOk_of {a : Str} {j : Int} (h1 : j ≤ 10000) (h0 : 0 ≤ j) (h2 : a.length ≤ 1000) : MulOk a j := by
  refine ⟨?_, fun hn _ => ?_, fun hn _ => ?_⟩
  · simp only [Bool.or_eq_false_iff, decide_eq_false_iff_not]; omega
  · have : (1000 : Int) ≤ (2 ^ 63 - 1) / j := Int.le_ediv_of_mul_le (by omega) (by omega)
    omega
  · have h3 : a.length * j.toNat ≤ 1000 * 10000 := Nat.mul_le_mul h2 (by omega)
    have := sizeLine_eq
    refine decide_eq_false ?_
    omega
/-- times: ints, a text, a list -/
def fMul (mt : Bool) (u v : U) (c : Cs) : Option (U × Cs) := match u, v with
  | .int i, .int j => if i.natAbs.log2 + j.natAbs.log2 < 1000000 then some (.int (i * j), c) else none
  | .str a, .int j => if j ≤ 10000 ∧ 0 ≤ j ∧ a.length ≤ 1000 then some (.str (Txt.mul a j), c) else none
  | u, .int j => (lviewM c u).bind fun xs => if -(2 ^ 63) ≤ j ∧ j < 2 ^ 63 ∧ xs.length * j.toNat ≤ sizeLine then some (mkL mt (List.replicate j.toNat xs).flatten c) else none
  | _, _ => none
abbrev rMulS : R2 := fun x y H Q => ∃ a j, x = .str a ∧ y = .int j ∧ MulOk a j ∧ Q (.str (Txt.mul a j)) H
theorem op_mulS : OpR X (binaryOp .Mult) rMulS := by
  intro pins s σ H x y v u Q I rx ry h
  obtain ⟨a, j, rfl, rfl, ok, q⟩ := h
  obtain ⟨t, rfl⟩ := rx
  obtain ⟨t', rfl⟩ := ry
  exact SB.mul ok fun t1 k => ⟨.str (Txt.mul a j), H, I.tok k, ⟨_, rfl⟩, q⟩
abbrev rMulA : R2 := fun x y H Q => rI CMulW (fun i j => .int (i * j)) x y H Q ∨ (rMulS x y H Q ∨ rRep x y H Q)
theorem op_mulA : OpR X (binaryOp .Mult) rMulA := op_mulW.or (op_mulS.or op_rep)
theorem UVs.rep {w : Wd} {us : List U} {vs : List V} (h : UVs g w us vs) : ∀ k : Nat, UVs g w (List.replicate k us).flatten (List.replicate k vs).flatten
  | 0 => rfl
  | k + 1 => by
    rw [List.replicate_succ, List.replicate_succ, List.flatten_cons, List.flatten_cons]
    exact h.app (UVs.rep h k)
theorem mul_u {mt : Bool} : OpU g (fMul mt) rMulA := by
  intro w c H u v x y z c' Q hh ru rv e h
  unfold fMul at e
  split at e
  · split at e
    · cases e
      cases (show x = _ from ru); cases (show y = _ from rv)
      exact .inl ⟨_, _, rfl, rfl, by assumption, Then.here h hh rfl⟩
    · cases e
  · split at e
    · rename_i k
      cases e
      cases (show x = _ from ru); cases (show y = _ from rv)
      exact .inr (.inl ⟨_, _, rfl, rfl, mulOk_of k.1 k.2.1 k.2.2, Then.here h hh rfl⟩)
    · cases e
  · rename_i j _ _
    cases (show y = _ from rv)
    cases e1 : lviewM c u with
    | none => rw [e1] at e; cases e
    | some xs =>
      rw [e1] at e
      have e3 : (if -(2 ^ 63) ≤ j ∧ j < 2 ^ 63 ∧ xs.length * j.toNat ≤ sizeLine then some (mkL mt (List.replicate j.toNat xs).flatten c) else none) = some (z, c') := e
      obtain ⟨l, vs, rfl, hl, r1⟩ := lviewM_ok hh ru e1
      split at e3
      · rename_i k
        exact .inr (.inr ⟨l, j, vs, rfl, rfl, hl, k.1, k.2.1, by rw [← r1.length]; exact k.2.2, mkL_done' e3 h hh (r1.rep _)⟩)
      · cases e3
  · cases e
end
end Mi
namespace Mi
open PySem PySem.Spec PyProof.Rows L2

/-! ### data -/
def pdL (f : U → Option PyData) : List U → Option (List PyData)
  | [] => some []
  | x :: xs => (f x).bind fun d => (pdL f xs).map (d :: ·)
def pd : Nat → Cs → U → Option PyData
  | 0, _, _ => none
  | n + 1, c, u => match u with
    | .non => some .none
    | .bl b => some (.bool b)
    | .int i => some (.int i)
    | .str s => some (.str s)
    | .tup xs => (pdL (pd n c) xs).map .tuple
    | u => (lview c u).bind fun xs => (pdL (pd n c) xs).map .list
section
variable {g : Gc} {w : Wd} {c : Cs} {H : Hp}
theorem pdL_ok {f : U → Option PyData} (hf : ∀ u x d, UV g w u x → f u = some d → Dp g.K H x d) : ∀ {us : List U} {vs : List V} {ds : List PyData}, UVs g w us vs → pdL f us = some ds → DpAll g.K H vs ds
  | [], _, _, r, e => by cases (show _ = [] from r); cases e; exact .nil
  | u :: us, _, ds, ⟨v, r, e0, q, t⟩, e => by
    subst e0
    unfold pdL at e
    cases e1 : f u with
    | none => rw [e1] at e; cases e
    | some d =>
      cases e2 : pdL f us with
      | none => rw [e1, e2] at e; cases e
      | some ds' => rw [e1, e2] at e; cases e; exact .cons (hf u v d q e1) (pdL_ok hf t e2)
theorem pd_ok (hh : HRel g w c H) : ∀ (n : Nat) {u : U} {x : V} {d : PyData}, UV g w u x → pd n c u = some d → Dp g.K H x d
  | 0, _, _, _, _, e => by cases e
  | n + 1, u, x, d, r, e => by
    have ih := fun u x d (r : UV g w u x) (e : pd n c u = some d) => pd_ok hh n r e
    have lst : ∀ {u : U} {x : V}, UV g w u x → ((lview c u).bind fun xs => (pdL (pd n c) xs).map PyData.list) = some d → Dp g.K H x d := fun {u x} r e => by
      cases e1 : lview c u with
      | none => rw [e1] at e; cases e
      | some xs =>
        obtain ⟨a, vs, rfl, hs, rv⟩ := lview_ok hh r e1
        rw [e1] at e
        have e2 : (pdL (pd n c) xs).map PyData.list = some d := e
        cases e3 : pdL (pd n c) xs with
        | none => rw [e3] at e2; cases e2
        | some ds => rw [e3] at e2; cases e2; exact .lst hs (pdL_ok ih rv e3)
    cases u with
    | non => cases e; cases (show x = _ from r); exact .non
    | bl b => cases e; cases (show x = _ from r); exact .bl b
    | int i => cases e; cases (show x = _ from r); exact .int i
    | str s => cases e; cases (show x = _ from r); exact .str s
    | tup xs =>
      obtain ⟨a, vs, rfl, hs, rv⟩ := tview_ok (u := .tup xs) hh r rfl
      have e2 : (pdL (pd n c) xs).map PyData.tuple = some d := e
      cases e3 : pdL (pd n c) xs with
      | none => rw [e3] at e2; cases e2
      | some ds => rw [e3] at e2; cases e2; exact .tup (SqT.of hs) (pdL_ok ih rv e3)
    | _ => exact lst r e
theorem pdL_depth {f : U → Option PyData} {k : Nat} (hf : ∀ u d, f u = some d → d.depth ≤ k) : ∀ {us : List U} {ds : List PyData}, pdL f us = some ds → PyData.depthAll ds ≤ k
  | [], _, e => by cases e; exact Nat.zero_le _
  | u :: us, ds, e => by
    unfold pdL at e
    cases e1 : f u with
    | none => rw [e1] at e; cases e
    | some d =>
      cases e2 : pdL f us with
      | none => rw [e1, e2] at e; cases e
      | some ds' => rw [e1, e2] at e; cases e; exact Nat.max_le.mpr ⟨hf u d e1, pdL_depth hf e2⟩
theorem pd_depth : ∀ (n : Nat) {u : U} {d : PyData}, pd n c u = some d → d.depth ≤ n
  | 0, _, _, e => by cases e
  | n + 1, u, d, e => by
    have lst : ∀ {u : U}, ((lview c u).bind fun xs => (pdL (pd n c) xs).map PyData.list) = some d → d.depth ≤ n + 1 := fun {u} e => by
      cases e1 : lview c u with
      | none => rw [e1] at e; cases e
      | some xs =>
        rw [e1] at e
        have e2 : (pdL (pd n c) xs).map PyData.list = some d := e
        cases e3 : pdL (pd n c) xs with
        | none => rw [e3] at e2; cases e2
        | some ds => rw [e3] at e2; cases e2; exact Nat.succ_le_succ (pdL_depth (fun u d q => pd_depth n q) e3)
    cases u with
    | non => cases e; exact Nat.zero_le _
    | bl b => cases e; exact Nat.zero_le _
    | int i => cases e; exact Nat.zero_le _
    | str s => cases e; exact Nat.zero_le _
    | tup xs =>
      have e2 : (pdL (pd n c) xs).map PyData.tuple = some d := e
      cases e3 : pdL (pd n c) xs with
      | none => rw [e3] at e2; cases e2
      | some ds => rw [e3] at e2; cases e2; exact Nat.succ_le_succ (pdL_depth (fun u d q => pd_depth n q) e3)
    | cel k => exact lst (u := .cel k) e
    | lst ys => exact lst (u := .lst ys) e
    | slst ys => exact lst (u := .slst ys) e
    | dK ks ys => exact lst (u := .dK ks ys) e
    | dT ks ys => exact lst (u := .dT ks ys) e
    | obj C ns ys => exact lst (u := .obj C ns ys) e
    | ty C => exact lst (u := .ty C) e
    | exv => exact lst (u := .exv) e
    | err C ns ys => exact lst (u := .err C ns ys) e
theorem pd_shaped {u : U} {d : PyData} (e : pd 6 c u = some d) (h : d.canLay0 = true) : SeqAt.shaped d = true := by
  unfold SeqAt.shaped
  rw [h, decide_eq_true (Nat.le_trans (pd_depth 6 e) (by decide))]
  rfl
end
/-- == and != of data -/
def fEq (neg : Bool) (u v : U) (c : Cs) : Option (U × Cs) := match u, v with
  | .str a, .str b => some (.bl (if neg then !decide (a = b) else decide (a = b)), c)
  | .int a, .int b => some (.bl (if neg then !decide (a = b) else decide (a = b)), c)
  | u, v => (pd 6 c u).bind fun d => (pd 6 c v).bind fun e => if d.canLay0 && e.canLay0 then some (.bl (if neg then !PyData.eqv d e else PyData.eqv d e), c) else none
abbrev rEqA (K : PySem.W.Frag) : R2 := fun x y H Q => rEq x y H Q ∨ rEqD K x y H Q
abbrev rNeA (K : PySem.W.Frag) : R2 := fun x y H Q => rNe x y H Q ∨ rNeD K x y H Q
theorem eqD_u {g : Gc} {neg : Bool} {w : Wd} {c : Cs} {H : Hp} {u v z : U} {x y : V} {c' : Cs} {Q : VK} (hh : HRel g w c H) (ru : UV g w u x) (rv : UV g w v y)
    (e : ((pd 6 c u).bind fun d => (pd 6 c v).bind fun e => if d.canLay0 && e.canLay0 then some (U.bl (if neg then !PyData.eqv d e else PyData.eqv d e), c) else none) = some (z, c')) (h : Then g w z c' Q) :
    ∃ d e, Dp g.K H x d ∧ Dp g.K H y e ∧ SeqAt.shaped d = true ∧ SeqAt.shaped e = true ∧ Q (.bl (if neg then !PyData.eqv d e else PyData.eqv d e)) H := by
  cases e1 : pd 6 c u with
  | none => rw [e1] at e; cases e
  | some d =>
    cases e2 : pd 6 c v with
    | none => rw [e1, e2] at e; cases e
    | some d' =>
      rw [e1, e2] at e
      have e3 : (if d.canLay0 && d'.canLay0 then some (U.bl (if neg then !PyData.eqv d d' else PyData.eqv d d'), c) else none) = some (z, c') := e
      split at e3
      · rename_i k
        simp only [Bool.and_eq_true] at k
        cases e3
        exact ⟨d, d', pd_ok hh 6 ru e1, pd_ok hh 6 rv e2, pd_shaped e1 k.1, pd_shaped e2 k.2, Then.here h hh rfl⟩
      · cases e3
theorem eq_u {g : Gc} : OpU g (fEq false) (rEqA g.K) := by
  intro w c H u v x y z c' Q hh ru rv e h
  unfold fEq at e
  split at e
  · cases e
    cases (show x = _ from ru); cases (show y = _ from rv)
    refine .inl ⟨rfl, ?_⟩
    rw [dec_str, ← Bool.beq_eq_decide_eq] at *
    exact Then.here h hh rfl
  · cases e
    cases (show x = _ from ru); cases (show y = _ from rv)
    refine .inl ⟨rfl, ?_⟩
    rw [dec_int, ← Bool.beq_eq_decide_eq] at *
    exact Then.here h hh rfl
  · exact .inr (eqD_u (neg := false) hh ru rv e h)
theorem ne_u {g : Gc} : OpU g (fEq true) (rNeA g.K) := by
  intro w c H u v x y z c' Q hh ru rv e h
  unfold fEq at e
  split at e
  · cases e
    cases (show x = _ from ru); cases (show y = _ from rv)
    refine .inl ⟨rfl, ?_⟩
    rw [dec_str, ← Bool.beq_eq_decide_eq] at *
    exact Then.here h hh rfl
  · cases e
    cases (show x = _ from ru); cases (show y = _ from rv)
    refine .inl ⟨rfl, ?_⟩
    rw [dec_int, ← Bool.beq_eq_decide_eq] at *
    exact Then.here h hh rfl
  · exact .inr (eqD_u (neg := true) hh ru rv e h)
/-- one sign in a text -/
def fInS (neg : Bool) (u v : U) (c : Cs) : Option (U × Cs) := match u, v with
  | .str a, .str b => match a.cps.toList with
    | [k] => some (.bl (if neg then !decide (k ∈ b.cps.toList) else decide (k ∈ b.cps.toList)), c)
    | _ => none
  | _, _ => none
theorem str_one {a : Str} {k : Nat} (h : a.cps.toList = [k]) : a = ⟨#[k]⟩ := by
  cases a with
  | mk l => 
    have : l = #[k] := by rw [← Array.toArray_toList (xs := l)]; exact congrArg List.toArray h
    rw [this]
theorem inS_u {g : Gc} : OpU g (fInS false) (fun x y H Q => ∃ (c : Nat) (z : Str), x = .str ⟨#[c]⟩ ∧ y = .str z ∧ Q (.bl (decide (c ∈ z.cps.toList))) H) := by
  intro w c H u v x y z c' Q hh ru rv e h
  unfold fInS at e
  split at e
  · split at e
    · rename_i k
      cases e
      cases (show x = _ from ru); cases (show y = _ from rv)
      exact ⟨_, _, congrArg V.str (str_one k), rfl, Then.here h hh rfl⟩
    · cases e
  · cases e
theorem notInS_u {g : Gc} : OpU g (fInS true) (fun x y H Q => ∃ (c : Nat) (z : Str), x = .str ⟨#[c]⟩ ∧ y = .str z ∧ Q (.bl (!decide (c ∈ z.cps.toList))) H) := by
  intro w c H u v x y z c' Q hh ru rv e h
  unfold fInS at e
  split at e
  · split at e
    · rename_i k
      cases e
      cases (show x = _ from ru); cases (show y = _ from rv)
      exact ⟨_, _, congrArg V.str (str_one k), rfl, Then.here h hh rfl⟩
    · cases e
  · cases e

/-! ### items and slices -/
def fIx (u v : U) (c : Cs) : Option (U × Cs) := match v with
  | .int i => match u with
    | .str s => if s.length ≤ sizeLine then (atI s.cps.toList i).map fun k => (.str ⟨#[k]⟩, c) else none
    | .tup xs => (atI xs i).map fun z => (z, c)
    | u => (lview c u).bind fun xs => (atI xs i).map fun z => (z, c)
  | _ => none
theorem UVs.atI {g : Gc} {w : Wd} {us : List U} {vs : List V} {i : Int} {z : U} (r : UVs g w us vs) (e : atI us i = some z) : ∃ v, L2.atI vs i = some v ∧ UV g w z v := by
  unfold L2.atI at e ⊢
  rw [← r.length]
  cases q : ixN us.length i with
  | none => rw [q] at e; cases e
  | some j => rw [q] at e; exact r.get e
theorem ix_u {g : Gc} : OpU g fIx (rIx g.K) := by
  intro w c H u v x y z c' Q hh ru rv e h
  unfold fIx at e
  split at e
  · rename_i i
    cases (show y = _ from rv)
    split at e
    · rename_i s
      cases (show x = _ from ru)
      split at e
      · rename_i hz
        cases q : atI s.cps.toList i with
        | none => rw [q] at e; cases e
        | some k => rw [q] at e; cases e; exact .inr (.inr ⟨s, i, k, rfl, rfl, hz, q, Then.here h hh rfl⟩)
      · cases e
    · rename_i xs
      obtain ⟨a, vs, rfl, hs, r⟩ := tview_ok (u := .tup xs) hh ru rfl
      cases q : atI xs i with
      | none => rw [q] at e; cases e
      | some k =>
        rw [q] at e; cases e
        obtain ⟨v, q1, q2⟩ := r.atI q
        exact .inr (.inl ⟨a, vs, i, v, rfl, rfl, SqT.of hs, q1, Then.here h hh q2⟩)
    · cases e1 : lview c u with
      | none => rw [e1] at e; cases e
      | some xs =>
        rw [e1] at e
        have e : (atI xs i).map (fun z => (z, c)) = some (z, c') := e
        obtain ⟨a, vs, rfl, hs, r⟩ := lview_ok hh ru e1
        cases q : atI xs i with
        | none => rw [q] at e; cases e
        | some k =>
          rw [q] at e; cases e
          obtain ⟨v, q1, q2⟩ := r.atI q
          exact .inl ⟨a, vs, i, v, rfl, rfl, hs, q1, Then.here h hh q2⟩
  · cases e
section
variable {X : Cx} {g : Gc} {Wx : WX} {e a b o f : Expr} {es : List Expr} {m n k : ME} {ms : MA} {pos p p2 q apos : Pos} {x : Str}
theorem de_ix (hK : X.K = g.K) (ha : DE X g Wx a m) (hb : DE X g Wx b n) (hs : PlainIx b := by intro _ _; rfl) : DE X g Wx (.Subscript a b pos) (m2 fIx m n) :=
  pe_imp (pe_ix ix_seq ha hb hs) fun σ H Q ⟨w, τ, c, hs, hh, q⟩ => by rw [hK]; exact m2_run ix_u hs hh q
def moNone : MO := fun _ c => .ok none c
def moSome (m : ME) : MO := fun τ c => (m τ c).bind fun u c1 => match u with
  | .int i => .ok (some i) c1
  | _ => .bad
theorem do_none : DO X g Wx none moNone := po_imp po_none fun σ H Q ⟨w, τ, c, hs, hh, q⟩ => Post.here q hh rfl
theorem do_some (h : DE X g Wx e m) : DO X g Wx (some e) (moSome m) := po_imp (po_some h) fun σ H Q ⟨w, τ, c, hs, hh, q⟩ => rd_bind q hs hh fun u c1 w1 x H1 e1 h1 r1 s1 q1 => by
  cases u with
  | int i => exact ⟨i, r1, Post.here q1 h1 rfl⟩
  | _ => exact q1.elim
def fSl (mt : Bool) (u : U) (lo hi : Option Int) (c : Cs) : Option (U × Cs) := match u with
  | .str s => if s.length ≤ sizeLine then some (.str (cutS s lo hi), c) else none
  | u => (lview c u).map fun xs => mkL mt ((xs.drop (HT.sIx xs.length 0 lo)).take (HT.sIx xs.length xs.length hi - HT.sIx xs.length 0 lo)) c
def mSl (mt : Bool) (m : ME) (lo hi : MO) : ME := fun τ c => (m τ c).bind fun u c1 => (lo τ c1).bind fun l c2 => (hi τ c2).bind fun r c3 => ofO (fSl mt u l r c3)
theorem de_slice (mt : Bool) {lo hi : Option Expr} {ml mh : MO} (hK : X.K = g.K) (ha : DE X g Wx e m) (hl : DO X g Wx lo ml) (hu : DO X g Wx hi mh) : DE X g Wx (.Subscript e (.Slice lo hi none p2) pos) (mSl mt m ml mh) := by
  refine pe_imp (pe_slice (sl_str.or sl_list) ha hl hu) fun σ H Q ⟨w, τ, c, hs, hh, q⟩ => ?_
  refine rd_bind q hs hh fun u c1 w1 x H1 e1 h1 r1 s1 q1 => rd_bind q1 s1 h1 fun l c2 w2 l' H2 e2 h2 r2 s2 q2 => rd_bind q2 s2 h2 fun h c3 w3 h' H3 e3 h3 r3 s3 q3 => ?_
  cases (show l = l' from r2); cases (show h = h' from r3)
  obtain ⟨z, c', e, q4⟩ := ofO_ok q3
  have ru := (r1.up e2).up e3
  unfold fSl at e
  split at e
  · rename_i s
    cases (show x = _ from ru)
    split at e
    · cases e; exact .inl ⟨s, rfl, by assumption, Post.here q4 h3 rfl⟩
    · cases e
  · cases e1 : lview c3 u with
    | none => rw [e1] at e; cases e
    | some xs =>
      rw [e1] at e
      obtain ⟨a, vs, rfl, hs', r⟩ := lview_ok h3 ru e1
      refine .inr ⟨a, vs, rfl, by rw [hK]; exact hs', ?_⟩
      have rc : UVs g w3 ((xs.drop (HT.sIx xs.length 0 l)).take (HT.sIx xs.length xs.length h - HT.sIx xs.length 0 l)) (cutV vs l h) := by
        unfold cutV
        rw [← r.length]
        exact (r.drop _).take _
      exact mkL_done' (by exact e) q4 h3 rc

/-! ### displays -/
def maNil : MA := fun _ c => .ok [] c
def maCons (m : ME) (ms : MA) : MA := fun τ c => (m τ c).bind fun u c1 => (ms τ c1).bind fun us c2 => .ok (u :: us) c2
theorem da_nil : DA X g Wx [] maNil := pa_imp pa_nil fun σ H Q ⟨w, τ, c, hs, hh, q⟩ => Post.here q hh rfl
theorem da_cons (ha : DE X g Wx e m) (hr : DA X g Wx es ms) (hs : starEach (e :: es) X.env = (false, eval e X.env) :: starEach es X.env := by rfl) : DA X g Wx (e :: es) (maCons m ms) :=
  pa_imp (pa_cons ha hr hs) fun σ H Q ⟨w, τ, c, hs, hh, q⟩ => rd_bind q hs hh fun u c1 w1 x H1 e1 h1 r1 s1 q1 => rd_bind q1 s1 h1 fun us c2 w2 xs H2 e2 h2 r2 s2 q2 => Post.here q2 h2 ⟨x, xs, rfl, r1.up e2, r2⟩
def mLst (mt : Bool) (ms : MA) : ME := fun τ c => (ms τ c).bind fun us c1 => if us.length ≤ 10000 then ofO (some (mkL mt us c1)) else .bad
theorem small_line {n : Nat} (h : n ≤ 10000) : n ≤ sizeLine := by rw [sizeLine_eq]; omega
theorem de_lst (mt : Bool) (h : DA X g Wx es ms) : DE X g Wx (.List es pos) (mLst mt ms) := by
  refine pe_imp (pe_lst h) fun σ H Q ⟨w, τ, c, hs, hh, q⟩ => rd_bind q hs hh fun us c1 w1 xs H1 e1 h1 r1 s1 q1 => ?_
  split at q1
  · rename_i hl
    exact ⟨by rw [← r1.length]; exact small_line hl, mkL_done' rfl q1 h1 r1⟩
  · exact q1.elim
def mTup (ms : MA) : ME := fun τ c => (ms τ c).bind fun us c1 => if us.length ≤ 10000 then .ok (.tup us) c1 else .bad
theorem de_tup {x1} (h : DA X g Wx es ms) : DE X g Wx (.Tuple es x1 pos) (mTup ms) := by
  refine pe_imp (pe_tup h) fun σ H Q ⟨w, τ, c, hs, hh, q⟩ => rd_bind q hs hh fun us c1 w1 xs H1 e1 h1 r1 s1 q1 => ?_
  split at q1
  · rename_i hl
    exact ⟨by rw [← r1.length]; exact small_line hl, Then.newF (z := .tup us) q1 h1 fun p w' e q => ⟨p, xs, rfl, q, r1.up e⟩⟩
  · exact q1.elim

/-! ### built-ins -/
def mCall (f : List U → Cs → Option (U × Cs)) (ms : MA) : ME := fun τ c => (ms τ c).bind fun us c1 => ofO (f us c1)
theorem mCall_run {f : List U → Cs → Option (U × Cs)} {r : List V → Hp → VK → Prop} (hf : CallU g f r) {w : Wd} {τ : T} {c : Cs} {σ : L2.St} {H : Hp} {Q : VK} (hs : SR g w τ σ) (hh : HRel g w c H) (q : Post g w σ Wx (UV g) Q (mCall f ms τ c)) :
    rd g Wx (UVs g) ms σ H fun vs H1 => r vs H1 Q := rd_bind q hs hh fun us c1 w1 xs H1 e1 h1 r1 s1 q1 => by
  obtain ⟨z, c', e, q3⟩ := ofO_ok q1
  exact hf w1 c1 H1 us xs z c' Q h1 r1 e q3
theorem de_callB {id : String} {f : List U → Cs → Option (U × Cs)} {r : List V → Hp → VK → Prop} (hc : CallR X (.builtin id) r) (hf : CallU g f r) (ha : DA X g Wx (e :: es) ms) (hm : X.mg x = none) (hg : Gl X x := by rfl)
    (hv : bootBuiltins x = some (.builtin id) := by decide +kernel) (hn : x ≠ "__name__" := by decide) (hdb : (x == ("__debug__" : Str)) = false := by decide)
    (he : starEach (e :: es) X.env = (false, eval e X.env) :: starEach es X.env := by rfl) (hpl : (backTo pos (starEach es X.env)).any (·.1) = false := by rfl) : DE X g Wx (.Call (.Name x p) (e :: es) [] pos) (mCall f ms) :=
  pe_imp (pe_callB hc hg hm hv ha hn hdb he hpl) fun σ H Q ⟨w, τ, c, hs, hh, q⟩ => mCall_run hf hs hh q
theorem de_callTy {id : String} {f : List U → Cs → Option (U × Cs)} {r : List V → Hp → VK → Prop} (hc : CallR X (.type id) r) (hf : CallU g f r) (ha : DA X g Wx (e :: es) ms) (hm : X.mg x = none) (hg : Gl X x := by rfl)
    (hv : bootBuiltins x = some (.type id) := by decide +kernel) (hn : x ≠ "__name__" := by decide) (hdb : (x == ("__debug__" : Str)) = false := by decide)
    (he : starEach (e :: es) X.env = (false, eval e X.env) :: starEach es X.env := by rfl) (hpl : (backTo pos (starEach es X.env)).any (·.1) = false := by rfl) : DE X g Wx (.Call (.Name x p) (e :: es) [] pos) (mCall f ms) :=
  pe_imp (pe_callTy hc hg hm hv ha hn hdb he hpl) fun σ H Q ⟨w, τ, c, hs, hh, q⟩ => mCall_run hf hs hh q
theorem uvs1 {w : Wd} {u : U} {vs : List V} (r : UVs g w [u] vs) : ∃ v, vs = [v] ∧ UV g w u v := by
  obtain ⟨v, t, rfl, q, e⟩ := r
  cases (show t = [] from e)
  exact ⟨v, rfl, q⟩
theorem uvs2 {w : Wd} {u u' : U} {vs : List V} (r : UVs g w [u, u'] vs) : ∃ v v', vs = [v, v'] ∧ UV g w u v ∧ UV g w u' v' := by
  obtain ⟨v, t, rfl, q, e⟩ := r
  obtain ⟨v', rfl, q'⟩ := uvs1 e
  exact ⟨v, v', rfl, q, q'⟩
def fLen (us : List U) (c : Cs) : Option (U × Cs) := match us with
  | [.str s] => if s.length ≤ sizeLine then some (.int s.length, c) else none
  | [.tup xs] => some (.int xs.length, c)
  | [u] => (lview c u).map fun xs => (.int xs.length, c)
  | _ => none
abbrev rLenA (K : PySem.W.Frag) : List V → Hp → VK → Prop := fun xs H Q => (∃ p ys, xs = [.ref p] ∧ (SqL K H p ys ∨ SqT K H p ys) ∧ Q (.int ys.length) H) ∨ ∃ z : Str, xs = [.str z] ∧ z.length ≤ sizeLine ∧ Q (.int z.length) H
theorem call_lenA : CallR X (.builtin "len") (rLenA X.K) := call_len_seq.or call_len_str
theorem len_u : CallU g fLen (rLenA g.K) := by
  intro w c H us vs z c' Q hh r e h
  unfold fLen at e
  split at e
  · obtain ⟨v, rfl, rv⟩ := uvs1 r
    cases (show v = _ from rv)
    split at e
    · cases e; exact .inr ⟨_, rfl, by assumption, Then.here h hh rfl⟩
    · cases e
  · rename_i xs
    obtain ⟨v, rfl, rv⟩ := uvs1 r
    obtain ⟨a, vs, rfl, hs, rs⟩ := tview_ok (u := .tup xs) hh rv rfl
    cases e
    exact .inl ⟨a, vs, rfl, .inr (SqT.of hs), by rw [← rs.length]; exact Then.here h hh rfl⟩
  · rename_i u _ _
    obtain ⟨v, rfl, rv⟩ := uvs1 r
    cases e1 : lview c u with
    | none => rw [e1] at e; cases e
    | some xs =>
      rw [e1] at e
      obtain ⟨a, vs, rfl, hs, rs⟩ := lview_ok hh rv e1
      cases e
      exact .inl ⟨a, vs, rfl, .inl hs, by rw [← rs.length]; exact Then.here h hh rfl⟩
  · cases e
def fAbs (us : List U) (c : Cs) : Option (U × Cs) := match us with
  | [.int i] => some (.int (if i < 0 then -i else i), c)
  | _ => none
theorem abs_u : CallU g fAbs (fun xs H Q => ∃ i, xs = [.int i] ∧ Q (.int (if i < 0 then -i else i)) H) := by
  intro w c H us vs z c' Q hh r e h
  unfold fAbs at e
  split at e
  · obtain ⟨v, rfl, rv⟩ := uvs1 r
    cases (show v = _ from rv)
    cases e
    exact ⟨_, rfl, Then.here h hh rfl⟩
  · cases e
def fInt (us : List U) (c : Cs) : Option (U × Cs) := match us with
  | [.int i] => some (.int i, c)
  | _ => none
theorem int_u : CallU g fInt (fun xs H Q => (∃ i, xs = [.int i] ∧ Q (.int i) H) ∨ ∃ k, xs = [.bl k] ∧ Q (.int (if k then 1 else 0)) H) := by
  intro w c H us vs z c' Q hh r e h
  unfold fInt at e
  split at e
  · obtain ⟨v, rfl, rv⟩ := uvs1 r
    cases (show v = _ from rv)
    cases e
    exact .inl ⟨_, rfl, Then.here h hh rfl⟩
  · cases e
def fList (mt : Bool) (us : List U) (c : Cs) : Option (U × Cs) := match us with
  | [.tup xs] => some (mkL mt xs c)
  | [u] => (lview c u).map fun xs => mkL mt xs c
  | _ => none
theorem list_u {mt : Bool} : CallU g (fList mt) (fun xs H Q => ∃ p ys, xs = [.ref p] ∧ (SqL g.K H p ys ∨ SqT g.K H p ys) ∧ ∀ l, H l = none → Q (.ref l) (upd H l (.lst ys))) := by
  intro w c H us vs z c' Q hh r e h
  unfold fList at e
  split at e
  · rename_i xs
    obtain ⟨v, rfl, rv⟩ := uvs1 r
    obtain ⟨a, vs, rfl, hs, rs⟩ := tview_ok (u := .tup xs) hh rv rfl
    exact ⟨a, vs, rfl, .inr (SqT.of hs), mkL_done' e h hh rs⟩
  · rename_i u _
    obtain ⟨v, rfl, rv⟩ := uvs1 r
    cases e1 : lview c u with
    | none => rw [e1] at e; cases e
    | some xs =>
      rw [e1] at e
      obtain ⟨a, vs, rfl, hs, rs⟩ := lview_ok hh rv e1
      exact ⟨a, vs, rfl, .inl hs, mkL_done' e h hh rs⟩
  · cases e
def fTuple (us : List U) (c : Cs) : Option (U × Cs) := match us with
  | [.tup xs] => some (.tup xs, c)
  | [u] => (lview c u).map fun xs => (.tup xs, c)
  | _ => none
theorem tuple_u : CallU g fTuple (fun xs H Q => ∃ p ys, xs = [.ref p] ∧ ((SqL g.K H p ys ∧ ∀ l, H l = none → Q (.ref l) (upd H l (.tup ys))) ∨ (SqT g.K H p ys ∧ Q (.ref p) H))) := by
  intro w c H us vs z c' Q hh r e h
  unfold fTuple at e
  split at e
  · rename_i xs
    obtain ⟨v, rfl, rv⟩ := uvs1 r
    obtain ⟨a, vs, rfl, hs, rs⟩ := tview_ok (u := .tup xs) hh rv rfl
    cases e
    exact ⟨a, vs, rfl, .inr ⟨SqT.of hs, Then.here h hh rv⟩⟩
  · rename_i u _
    obtain ⟨v, rfl, rv⟩ := uvs1 r
    cases e1 : lview c u with
    | none => rw [e1] at e; cases e
    | some xs =>
      rw [e1] at e
      obtain ⟨a, vs, rfl, hs, rs⟩ := lview_ok hh rv e1
      cases e
      exact ⟨a, vs, rfl, .inl ⟨hs, Then.newF h hh fun p w' e q => ⟨p, vs, rfl, q, rs.up e⟩⟩⟩
  · cases e
def uBls : List U → Option (List Bool)
  | [] => some []
  | .bl b :: us => (uBls us).map (b :: ·)
  | _ => none
theorem uBls_ok {w : Wd} : ∀ {us : List U} {vs : List V} {bs : List Bool}, UVs g w us vs → uBls us = some bs → vs = bs.map V.bl
  | [], _, _, r, e => by cases (show _ = [] from r); cases e; rfl
  | .bl b :: us, _, bs, ⟨v, t, e0, q, rt⟩, e => by
    subst e0
    cases (show v = _ from q)
    have e : (uBls us).map (b :: ·) = some bs := e
    cases e1 : uBls us with
    | none => rw [e1] at e; cases e
    | some bs' => rw [e1] at e; cases e; rw [uBls_ok rt e1]; rfl
  | .non :: _, _, _, _, e => by cases e
  | .int _ :: _, _, _, _, e => by cases e
  | .str _ :: _, _, _, _, e => by cases e
  | .cel _ :: _, _, _, _, e => by cases e
  | .tup _ :: _, _, _, _, e => by cases e
  | .lst _ :: _, _, _, _, e => by cases e
  | .slst _ :: _, _, _, _, e => by cases e
  | .dK _ _ :: _, _, _, _, e => by cases e
  | .dT _ _ :: _, _, _, _, e => by cases e
  | .obj _ _ _ :: _, _, _, _, e => by cases e
  | .ty _ :: _, _, _, _, e => by cases e
def fAll (us : List U) (c : Cs) : Option (U × Cs) := match us with
  | [u] => (lview c u).bind fun xs => (uBls xs).map fun bs => (.bl (bs.all id), c)
  | _ => none
theorem all_u : CallU g fAll (rAll g.K) := by
  intro w c H us vs z c' Q hh r e h
  unfold fAll at e
  split at e
  · rename_i u
    obtain ⟨v, rfl, rv⟩ := uvs1 r
    cases e1 : lview c u with
    | none => rw [e1] at e; cases e
    | some xs =>
      rw [e1] at e
      have e : (uBls xs).map (fun bs => (U.bl (bs.all id), c)) = some (z, c') := e
      obtain ⟨a, vs, rfl, hs, rs⟩ := lview_ok hh rv e1
      cases e2 : uBls xs with
      | none => rw [e2] at e; cases e
      | some bs =>
        rw [e2] at e; cases e
        cases uBls_ok rs e2
        exact ⟨a, bs, rfl, hs, Then.here h hh rfl⟩
  · cases e
def uInts : List U → Option (List Int)
  | [] => some []
  | .int b :: us => (uInts us).map (b :: ·)
  | _ => none
theorem uInts_ok {w : Wd} : ∀ {us : List U} {vs : List V} {bs : List Int}, UVs g w us vs → uInts us = some bs → vs = bs.map V.int
  | [], _, _, r, e => by cases (show _ = [] from r); cases e; rfl
  | .int b :: us, _, bs, ⟨v, t, e0, q, rt⟩, e => by
    subst e0
    cases (show v = _ from q)
    have e : (uInts us).map (b :: ·) = some bs := e
    cases e1 : uInts us with
    | none => rw [e1] at e; cases e
    | some bs' => rw [e1] at e; cases e; rw [uInts_ok rt e1]; rfl
  | .non :: _, _, _, _, e => by cases e
  | .bl _ :: _, _, _, _, e => by cases e
  | .str _ :: _, _, _, _, e => by cases e
  | .cel _ :: _, _, _, _, e => by cases e
  | .tup _ :: _, _, _, _, e => by cases e
  | .lst _ :: _, _, _, _, e => by cases e
  | .slst _ :: _, _, _, _, e => by cases e
  | .dK _ _ :: _, _, _, _, e => by cases e
  | .dT _ _ :: _, _, _, _, e => by cases e
  | .obj _ _ _ :: _, _, _, _, e => by cases e
  | .ty _ :: _, _, _, _, e => by cases e
def fSum (us : List U) (c : Cs) : Option (U × Cs) := match us with
  | [u] => (lview c u).bind fun xs => (uInts xs).map fun ns => (.int ns.sum, c)
  | _ => none
theorem sum_u : CallU g fSum (rSum g.K) := by
  intro w c H us vs z c' Q hh r e h
  unfold fSum at e
  split at e
  · rename_i u
    obtain ⟨v, rfl, rv⟩ := uvs1 r
    cases e1 : lview c u with
    | none => rw [e1] at e; cases e
    | some xs =>
      rw [e1] at e
      have e : (uInts xs).map (fun ns => (U.int ns.sum, c)) = some (z, c') := e
      obtain ⟨a, vs, rfl, hs, rs⟩ := lview_ok hh rv e1
      cases e2 : uInts xs with
      | none => rw [e2] at e; cases e
      | some bs =>
        rw [e2] at e; cases e
        cases uInts_ok rs e2
        exact ⟨a, bs, rfl, hs, Then.here h hh rfl⟩
  · cases e
end
end Mi
namespace Mi
open PySem PySem.Spec PyProof.Rows L2

section
variable {X : Cx} {g : Gc} {Wx : WX} {e a b o f : Expr} {es rest : List Expr} {m n k : ME} {ms : MA} {mt mu mv : MT} {pos p p2 q apos : Pos} {x : Str}
/-! ### tests -/
def truU (c : Cs) : U → Option Bool
  | .non => some false
  | .bl b => some b
  | .int i => some (i != 0)
  | .str s => if s.length ≤ sizeLine then some ((s.length : Int) != 0) else none
  | .tup xs => some (!xs.isEmpty)
  | u => (lview c u).map fun xs => !xs.isEmpty
theorem UVs.empty {w : Wd} : ∀ {us : List U} {vs : List V}, UVs g w us vs → us.isEmpty = vs.isEmpty
  | [], _, r => by cases (show _ = [] from r); rfl
  | _ :: _, _, ⟨v, t, e, _, _⟩ => by subst e; rfl
theorem truU_ok {w : Wd} {c : Cs} {H : Hp} {u : U} {v : V} {b : Bool} (hh : HRel g w c H) (r : UV g w u v) (e : truU c u = some b) : TruV g.K v H b := by
  have lst : ∀ {u : U}, UV g w u v → (lview c u).map (fun xs => !xs.isEmpty) = some b → TruV g.K v H b := fun {u} r e => by
    cases e1 : lview c u with
    | none => rw [e1] at e; cases e
    | some xs =>
      rw [e1] at e; cases e
      obtain ⟨a, vs, rfl, hs, rs⟩ := lview_ok hh r e1
      exact .inl ⟨vs, hs, by show (!xs.isEmpty) = !vs.isEmpty; rw [rs.empty]⟩
  cases u with
  | non => cases (show v = _ from r); cases e; rfl
  | bl b' => cases (show v = _ from r); cases e; rfl
  | int i => cases (show v = _ from r); cases e; rfl
  | str s =>
    cases (show v = _ from r)
    have e : (if s.length ≤ sizeLine then some ((s.length : Int) != 0) else none) = some b := e
    split at e
    · cases e; exact ⟨by assumption, rfl⟩
    · cases e
  | tup xs =>
    obtain ⟨a, vs, rfl, hs, rs⟩ := tview_ok (u := .tup xs) hh r rfl
    cases e
    exact .inr (.inl ⟨vs, SqT.of hs, by rw [rs.empty]⟩)
  | cel n => exact lst (u := .cel n) r e
  | lst ys => exact lst (u := .lst ys) r e
  | slst ys => exact lst (u := .slst ys) r e
  | dK ks ys => cases e
  | dT ks ys => cases e
  | obj C ns ys => cases e
  | ty C => cases e
  | exv => cases e
  | err C ns xs => cases e
def mTru (m : ME) : MT := fun τ c => (m τ c).bind fun u c1 => match truU c1 u with
  | some b => .ok b c1
  | none => .bad
theorem tru_run {w : Wd} {τ : T} {c : Cs} {σ : L2.St} {H : Hp} {Q : Bool → Hp → Prop} (hs : SR g w τ σ) (hh : HRel g w c H) (q : Post g w σ Wx Eqr Q (mTru m τ c)) :
    rd g Wx (UV g) m σ H fun x H' => ∃ k, TruV g.K x H' k ∧ Q k H' := rd_bind q hs hh fun u c1 w1 x H1 e1 h1 r1 s1 q1 => by
  split at q1
  · rename_i b e
    exact ⟨b, truU_ok h1 r1 e, Post.here q1 h1 rfl⟩
  · exact q1.elim
theorem dt_of (hK : X.K = g.K) (h : DE X g Wx e m) (he : ∀ whole, isTrue e X.env whole = (do let v ← whole; standAt e.pos; holding [v] (truthy v)) := by intro _; rfl) : DT X g Wx e (mTru m) :=
  pt_imp (pt_truth h he) fun σ H Q ⟨w, τ, c, hs, hh, q⟩ => by rw [hK]; exact tru_run hs hh q
def mB (m : ME) : MT := fun τ c => (m τ c).bind fun u c1 => match u with
  | .bl b => .ok b c1
  | _ => .bad
theorem dt_cmp {op : CmpOp} {f : U → U → Cs → Option (U × Cs)} {r : R2} (ho : OpR X (compareOp op) r) (hf : OpU g f r) (ha : DE X g Wx a m) (hb : DE X g Wx b n) (hm : behindInMarks op b = false) : DT X g Wx (.Compare a [op] [b] pos) (mB (m2 f m n)) := by
  refine pt_imp (pt_cmpR ho ha hb hm) fun σ H Q ⟨w, τ, c, hs, hh, q⟩ => ?_
  have q' : Post g w σ Wx Eqr Q ((m τ c).bind fun u c1 => (n τ c1).bind fun v c2 => (ofO (f u v c2)).bind fun z c3 => match z with | .bl b => .ok b c3 | _ => .bad) := by
    unfold mB m2 at q
    revert q
    cases m τ c with
    | ok u c1 =>
      simp only [bind_ok]
      cases n τ c1 with
      | ok v c2 => exact fun q => q
      | exc e c2 => exact fun q => q
      | bad => exact fun q => q
    | exc e c1 => exact fun q => q
    | bad => exact fun q => q
  refine rd_bind q' hs hh fun u c1 w1 x H1 e1 h1 r1 s1 q1 => rd_bind q1 s1 h1 fun v c2 w2 y H2 e2 h2 r2 s2 q2 => ?_
  cases e : f u v c2 with
  | none => rw [e] at q2; exact q2.elim
  | some p =>
    rw [e] at q2
    refine hf w2 c2 H2 u v x y p.1 p.2 _ h2 (r1.up e2) r2 e fun w3 z H3 e3 h3 r3 => ?_
    have q3 : Post g w2 σ Wx Eqr Q (match p.1 with | .bl b => .ok b p.2 | _ => .bad) := q2
    cases e4 : p.1 with
    | bl b =>
      rw [e4] at q3 r3
      exact ⟨b, r3, Post.here (Post.up e3 q3) h3 rfl⟩
    | _ => rw [e4] at q3; exact q3.elim
def mtNot (mt : MT) : MT := fun τ c => (mt τ c).bind fun b c1 => .ok (!b) c1
theorem dt_not (h : DT X g Wx a mt) : DT X g Wx (.UnaryOp .Not a pos) (mtNot mt) :=
  pt_imp (pt_not h) fun σ H Q ⟨w, τ, c, hs, hh, q⟩ => rd_bind q hs hh fun b c1 w1 b' H1 e1 h1 r1 s1 q1 => by cases (show b = b' from r1); exact Post.here q1 h1 rfl
def mtAnd (mt mu : MT) : MT := fun τ c => (mt τ c).bind fun b c1 => if b then mu τ c1 else .ok false c1
def mtOr (mt mu : MT) : MT := fun τ c => (mt τ c).bind fun b c1 => if b then .ok true c1 else mu τ c1
theorem dw_and1 (h : DT X g Wx a mt) : DW X g Wx (.BoolOp .And [a] pos) mt := pw_and1 h
theorem dw_or1 (h : DT X g Wx a mt) : DW X g Wx (.BoolOp .Or [a] pos) mt := pw_or1 h
theorem dw_and (h : DT X g Wx a mt) (k : DW X g Wx (.BoolOp .And (b :: rest) pos) mu) : DW X g Wx (.BoolOp .And (a :: b :: rest) pos) (mtAnd mt mu) :=
  pw_imp (pw_and h k) fun σ H Q ⟨w, τ, c, hs, hh, q⟩ => rd_bind q hs hh fun b c1 w1 b' H1 e1 h1 r1 s1 q1 => by
    cases (show b = b' from r1)
    cases b with
    | true => exact ⟨w1, τ, c1, s1, h1, q1⟩
    | false => exact Post.here q1 h1 rfl
theorem dw_or (h : DT X g Wx a mt) (k : DW X g Wx (.BoolOp .Or (b :: rest) pos) mu) : DW X g Wx (.BoolOp .Or (a :: b :: rest) pos) (mtOr mt mu) :=
  pw_imp (pw_or h k) fun σ H Q ⟨w, τ, c, hs, hh, q⟩ => rd_bind q hs hh fun b c1 w1 b' H1 e1 h1 r1 s1 q1 => by
    cases (show b = b' from r1)
    cases b with
    | true => exact Post.here q1 h1 rfl
    | false => exact ⟨w1, τ, c1, s1, h1, q1⟩
theorem dt_w (h : DW X g Wx e mt) : DT X g Wx e mt := PW.pt h
/-! and, or, not as values -/
def mAnd (m n : ME) : ME := fun τ c => (m τ c).bind fun u c1 => match u with
  | .bl true => n τ c1
  | .bl false => .ok (.bl false) c1
  | _ => .bad
def mOr (m n : ME) : ME := fun τ c => (m τ c).bind fun u c1 => match u with
  | .bl true => .ok (.bl true) c1
  | .bl false => n τ c1
  | _ => .bad
theorem de_one {op} (h : DE X g Wx a m) : DE X g Wx (.BoolOp op [a] pos) m := pe_one h
theorem de_and (h : DE X g Wx a m) (k : DE X g Wx (.BoolOp .And (b :: rest) pos) n) : DE X g Wx (.BoolOp .And (a :: b :: rest) pos) (mAnd m n) :=
  pe_imp (pe_and h k) fun σ H Q ⟨w, τ, c, hs, hh, q⟩ => rd_bind q hs hh fun u c1 w1 x H1 e1 h1 r1 s1 q1 => by
    split at q1
    · exact ⟨true, r1, ⟨w1, τ, c1, s1, h1, q1⟩⟩
    · exact ⟨false, r1, Post.here q1 h1 rfl⟩
    · exact q1.elim
theorem de_or (h : DE X g Wx a m) (k : DE X g Wx (.BoolOp .Or (b :: rest) pos) n) : DE X g Wx (.BoolOp .Or (a :: b :: rest) pos) (mOr m n) :=
  pe_imp (pe_or h k) fun σ H Q ⟨w, τ, c, hs, hh, q⟩ => rd_bind q hs hh fun u c1 w1 x H1 e1 h1 r1 s1 q1 => by
    split at q1
    · exact ⟨true, r1, Post.here q1 h1 rfl⟩
    · exact ⟨false, r1, ⟨w1, τ, c1, s1, h1, q1⟩⟩
    · exact q1.elim
def fNot (u : U) (c : Cs) : Option (U × Cs) := match u with
  | .bl b => some (.bl (!b), c)
  | _ => none
theorem de_not (h : DE X g Wx a m) : DE X g Wx (.UnaryOp .Not a pos) (m1 fNot m) :=
  pe_imp (pe_not h) fun σ H Q ⟨w, τ, c, hs, hh, q⟩ => rd_bind q hs hh fun u c1 w1 x H1 e1 h1 r1 s1 q1 => by
    obtain ⟨z, c', e, q3⟩ := ofO_ok q1
    cases u with
    | bl b => cases e; exact ⟨b, r1, Post.here q3 h1 rfl⟩
    | _ => cases e
def mIf (mt : MT) (m n : ME) : ME := fun τ c => (mt τ c).bind fun b c1 => if b then m τ c1 else n τ c1
theorem de_if (h : DT X g Wx f mt) (ha : DE X g Wx a m) (hb : DE X g Wx b n) : DE X g Wx (.IfExp f a b pos) (mIf mt m n) :=
  pe_imp (pe_ifExp h ha hb) fun σ H Q ⟨w, τ, c, hs, hh, q⟩ => rd_bind q hs hh fun b c1 w1 b' H1 e1 h1 r1 s1 q1 => by
    cases (show b = b' from r1)
    cases b with
    | true => exact ⟨w1, τ, c1, s1, h1, q1⟩
    | false => exact ⟨w1, τ, c1, s1, h1, q1⟩
/-- 1 <= n <= 8 -/
def ifB (z : U) (a b : R U) : R U := match z with
  | .bl true => a
  | .bl false => b
  | _ => .bad
@[simp] theorem ifB_t (a b : R U) : ifB (.bl true) a b = a := rfl
@[simp] theorem ifB_f (a b : R U) : ifB (.bl false) a b = b := rfl
def mChain (f f' : U → U → Cs → Option (U × Cs)) (m n k : ME) : ME := fun τ c => (m τ c).bind fun u c1 => (n τ c1).bind fun v c2 => (ofO (f u v c2)).bind fun z c3 => ifB z ((k τ c3).bind fun t c4 => ofO (f' v t c4)) (.ok (.bl false) c3)
theorem chain_run {f f' : U → U → Cs → Option (U × Cs)} {r r' : R2} (hf : OpU g f r) (hf' : OpU g f' r') {w : Wd} {τ : T} {c : Cs} {σ : L2.St} {H : Hp} {Q : VK} (hs : SR g w τ σ) (hh : HRel g w c H) (q : Post g w σ Wx (UV g) Q (mChain f f' m n k τ c)) :
    tChain r r' (rd g Wx (UV g) m) (rd g Wx (UV g) n) (rd g Wx (UV g) k) σ H Q := by
  refine rd_bind q hs hh fun u c1 w1 x H1 e1 h1 r1 s1 q1 => rd_bind q1 s1 h1 fun v c2 w2 y H2 e2 h2 r2 s2 q2 => ?_
  cases e : f u v c2 with
  | none => rw [e] at q2; exact q2.elim
  | some pr =>
    obtain ⟨z, c3⟩ := pr
    rw [e] at q2
    refine hf w2 c2 H2 u v x y z c3 _ h2 (r1.up e2) r2 e fun w3 zv H3 e3 h3 r3 => ?_
    have q3 := Post.up e3 (show Post g w2 σ Wx (UV g) Q (ifB z ((k τ c3).bind fun t c4 => ofO (f' v t c4)) (.ok (.bl false) c3)) from q2)
    unfold ifB at q3
    split at q3
    · refine ⟨true, r3, ?_⟩
      show if true = true then _ else _
      rw [if_pos rfl]
      refine rd_bind q3 (s2.up e3) h3 fun t c4 w4 tv H4 e4 h4 r4 s4 q4 => ?_
      obtain ⟨z', c5, e5, q5⟩ := ofO_ok q4
      exact hf' w4 c4 H4 v t y tv z' c5 Q h4 ((r2.up e3).up e4) r4 e5 q5
    · refine ⟨false, r3, ?_⟩
      rw [if_neg Bool.false_ne_true]
      exact Post.here q3 h3 rfl
    · exact q3.elim
theorem de_chain {op op' : CmpOp} {f1 f' : U → U → Cs → Option (U × Cs)} {r r' : R2} (ho : OpR X (compareOp op) r) (ho' : OpR X (compareOp op') r') (hf : OpU g f1 r) (hf' : OpU g f' r') (ha : DE X g Wx a m) (hb : DE X g Wx b n) (hc : DE X g Wx e k)
    (h1 : lastMarks [op, op'] [b, e] = false := by rfl) : DE X g Wx (.Compare a [op, op'] [b, e] pos) (mChain f1 f' m n k) :=
  pe_imp (pe_chain ho ho' ha hb hc h1) fun σ H Q ⟨w, τ, c, hs, hh, q⟩ => chain_run hf hf' hs hh q

/-! ### isinstance(x, T), T a built-in class -/
def tagU (c : Cs) : U → Option String
  | .non => some "NoneType"
  | .bl _ => some "bool"
  | .int _ => some "int"
  | .str _ => some "str"
  | .tup _ => some "tuple"
  | .lst _ => some "list"
  | .dK _ _ => some "dict"
  | .dT _ _ => some "dict"
  | .cel n => match c[n]? with
    | some (.lst _) => some "list"
    | some (.dK _ _) => some "dict"
    | some (.dT _ _) => some "dict"
    | _ => none
  | _ => none
theorem tag_ok {w : Wd} {c : Cs} {H : Hp} {u : U} {v : V} {t : String} (hh : HRel g w c H) (r : UV g w u v) (e : tagU c u = some t) : TyOf g.K H v (.type t) := by
  cases u with
  | non => cases (show v = _ from r); cases e; exact .non
  | bl b' => cases (show v = _ from r); cases e; exact .bl _
  | int i => cases (show v = _ from r); cases e; exact .int _
  | str s => cases (show v = _ from r); cases e; exact .str _
  | tup xs => obtain ⟨a, vs, rfl, q, _⟩ := r; cases e; exact .tup (hh.fz _ _ q)
  | lst xs => obtain ⟨a, vs, rfl, q, _⟩ := r; cases e; exact .lst (hh.fz _ _ q)
  | dK ks xs => obtain ⟨a, vs, rfl, q, _⟩ := r; cases e; exact .dK (hh.fz _ _ q)
  | dT ks xs => obtain ⟨a, vs, rfl, q, _⟩ := r; cases e; exact .dT (hh.fz _ _ q)
  | cel n =>
    obtain ⟨a, e1, rfl⟩ := r
    unfold tagU at e
    dsimp only at e
    split at e
    · rename_i q
      obtain ⟨a', e', ⟨vs, h1, _⟩, _⟩ := hh.cel n _ q
      rw [e1] at e'; cases e'; cases e; exact .lst h1
    · rename_i q
      obtain ⟨a', e', ⟨vs, h1, _⟩, _⟩ := hh.cel n _ q
      rw [e1] at e'; cases e'; cases e; exact .dK h1
    · rename_i q
      obtain ⟨a', e', ⟨vs, h1, _⟩, _⟩ := hh.cel n _ q
      rw [e1] at e'; cases e'; cases e; exact .dT h1
    · cases e
  | slst xs => cases e
  | obj C ns xs => cases e
  | ty C => cases e
  | exv => cases e
  | err C ns xs => cases e
def isT (t S : String) : Bool := t == S || (t == "bool" && S == "int")
def tags : List String := ["NoneType", "bool", "int", "str", "tuple", "list", "dict"]
def mIsi (S : String) (m : ME) : ME := fun τ c => (m τ c).bind fun u c1 => match tagU c1 u with
  | some t => if t ∈ tags then .ok (.bl (isT t S)) c1 else .bad
  | none => .bad
theorem de_isi {S : String} {y : Str} {q2 : Pos} (hK : X.K = g.K) (h : DE X g Wx e m) (hm : X.mg "isinstance" = none) (hmy : X.mg y = none) (hk : ∀ t ∈ tags, kitB t S = some (isT t S) := by decide +kernel) (hg : Gl X "isinstance" := by rfl) (hgy : Gl X y := by rfl)
    (hvy : bootBuiltins y = some (.type S) := by decide +kernel) (hny : y ≠ "__name__" := by decide) (hdy : (y == ("__debug__" : Str)) = false := by decide)
    (hs1 : starEach [e, .Name y q2] X.env = (false, eval e X.env) :: starEach [.Name y q2] X.env := by rfl) (hs2 : starEach [.Name y q2] X.env = (false, eval (.Name y q2) X.env) :: starEach [] X.env := by rfl)
    (hpl : (backTo pos (starEach [.Name y q2] X.env)).any (·.1) = false := by rfl) : DE X g Wx (.Call (.Name "isinstance" p) [e, .Name y q2] [] pos) (mIsi S m) := by
  refine pe_imp (pe_callB call_isi hg hm (by decide +kernel) (pa_cons h (pa_cons (pe_bltn (v := .ty S) hgy hmy hvy rfl hny hdy) pa_nil hs2) hs1) (by decide) (by decide) hs1 hpl) fun σ H Q ⟨w, τ, c, hs, hh, q⟩ => ?_
  refine rd_bind q hs hh fun u c1 w1 x H1 e1 h1 r1 s1 q1 => ?_
  split at q1
  · rename_i t e
    split at q1
    · rename_i ht
      refine ⟨x, .ty S, .type t, .type S, isT t S, rfl, .ty S, .base ?_, kit_ty (hk t ht), Post.here q1 h1 rfl⟩
      rw [hK]; exact tag_ok h1 r1 e
    · exact q1.elim
  · exact q1.elim

/-! ### methods -/
def mM1 (f : Str → U → Cs → Option (U × Cs)) (m n : ME) : ME := fun τ c => (m τ c).bind fun u c1 => match u with
  | .str a => (n τ c1).bind fun v c2 => ofO (f a v c2)
  | _ => .bad
theorem m1_run {f : Str → U → Cs → Option (U × Cs)} {r : V → List V → Hp → VK → Prop} (hf : ∀ w c H a v y z c' Q, HRel g w c H → UV g w v y → f a v c = some (z, c') → Then g w z c' Q → r (.str a) [y] H Q) {w : Wd} {τ : T} {c : Cs} {σ : L2.St} {H : Hp} {Q : VK} (hs : SR g w τ σ) (hh : HRel g w c H) (q : Post g w σ Wx (UV g) Q (mM1 f m n τ c)) :
    tM1 r (rd g Wx (UV g) m) (rd g Wx (UV g) n) σ H Q := rd_bind q hs hh fun u c1 w1 x H1 e1 h1 r1 s1 q1 => by
  split at q1
  · rename_i a
    cases (show x = _ from r1)
    refine ⟨⟨a, rfl⟩, rd_bind q1 s1 h1 fun v c2 w2 y H2 e2 h2 r2 s2 q2 => ?_⟩
    obtain ⟨z, c', e, q3⟩ := ofO_ok q2
    exact hf w2 c2 H2 a v y z c' Q h2 r2 e q3
  · exact q1.elim
theorem UVs.strs {w : Wd} : ∀ ys : List Str, UVs g w (ys.map .str) (ys.map V.str)
  | [] => rfl
  | y :: ys => ⟨.str y, ys.map V.str, rfl, rfl, UVs.strs ys⟩
theorem UVs.ints {w : Wd} : ∀ ys : List Int, UVs g w (ys.map .int) (ys.map V.int)
  | [] => rfl
  | y :: ys => ⟨.int y, ys.map V.int, rfl, rfl, UVs.ints ys⟩
def fSplit (mt : Bool) (a : Str) (v : U) (c : Cs) : Option (U × Cs) := match v with
  | .str b => if (b.length == 0) = false ∧ a.length ≤ 10000 then some (mkL mt ((Txt.split a b).map .str) c) else none
  | _ => none
theorem de_split (mt : Bool) (ho : DE X g Wx o m) (he : DE X g Wx e n) (hs : starEach [e] X.env = [(false, eval e X.env)] := by rfl) (hbase : attributeBase o "split" X.env (eval o X.env) = eval o X.env := by rfl) (hline : (apos.endLine == pos.line) = true := by rfl) :
    DE X g Wx (.Call (.Attribute o "split" apos) [e] [] pos) (mM1 (fSplit mt) m n) := by
  refine pe_imp (pe_split ho he hs hbase hline) fun σ H Q ⟨w, τ, c, hs, hh, q⟩ => m1_run (fun w c H a v y z c' Q hh r e h => ?_) hs hh q
  unfold fSplit at e
  split at e
  · rename_i b
    cases (show y = _ from r)
    split at e
    · rename_i k
      exact ⟨a, b, rfl, rfl, k.1, by rw [sizeLine_eq]; omega, mkL_done' e h hh (UVs.strs _)⟩
    · cases e
  · cases e
def uStrs : List U → Option (List Str)
  | [] => some []
  | .str b :: us => (uStrs us).map (b :: ·)
  | _ => none
theorem uStrs_ok {w : Wd} : ∀ {us : List U} {vs : List V} {bs : List Str}, UVs g w us vs → uStrs us = some bs → vs = bs.map V.str
  | [], _, _, r, e => by cases (show _ = [] from r); cases e; rfl
  | .str b :: us, _, bs, ⟨v, t, e0, q, rt⟩, e => by
    subst e0
    cases (show v = _ from q)
    have e : (uStrs us).map (b :: ·) = some bs := e
    cases e1 : uStrs us with
    | none => rw [e1] at e; cases e
    | some bs' => rw [e1] at e; cases e; rw [uStrs_ok rt e1]; rfl
  | .non :: _, _, _, _, e => by cases e
  | .bl _ :: _, _, _, _, e => by cases e
  | .int _ :: _, _, _, _, e => by cases e
  | .cel _ :: _, _, _, _, e => by cases e
  | .tup _ :: _, _, _, _, e => by cases e
  | .lst _ :: _, _, _, _, e => by cases e
  | .slst _ :: _, _, _, _, e => by cases e
  | .dK _ _ :: _, _, _, _, e => by cases e
  | .dT _ _ :: _, _, _, _, e => by cases e
  | .obj _ _ _ :: _, _, _, _, e => by cases e
  | .ty _ :: _, _, _, _, e => by cases e
theorem uStrs_map (ys : List Str) : uStrs (ys.map .str) = some ys := by
  induction ys with
  | nil => rfl
  | cons y ys ih => simp only [List.map_cons, uStrs, ih, Option.map_some]
def fJoin (a : Str) (v : U) (c : Cs) : Option (U × Cs) :=
  ((match v with | .tup xs => some xs | v => lview c v).bind uStrs).bind fun (ys : List Str) => if (ys.map fun y : Str => y.length).sum + ys.length * a.length ≤ 10000 then some (.str (Txt.join a ys), c) else none
theorem de_join (hK : X.K = g.K) (ho : DE X g Wx o m) (he : DE X g Wx e n) (hs : starEach [e] X.env = [(false, eval e X.env)] := by rfl) (hbase : attributeBase o "join" X.env (eval o X.env) = eval o X.env := by rfl) (hline : (apos.endLine == pos.line) = true := by rfl) :
    DE X g Wx (.Call (.Attribute o "join" apos) [e] [] pos) (mM1 fJoin m n) := by
  refine pe_imp (pe_join ho he hs hbase hline) fun σ H Q ⟨w, τ, c, hs, hh, q⟩ => m1_run (fun w c H a v y z c' Q hh r e h => ?_) hs hh q
  unfold fJoin at e
  have fin : ∀ {p : Addr} {xs : List U} {vs : List V}, y = .ref p → (SqL g.K H p vs ∨ SqT g.K H p vs) → UVs g w xs vs → ((uStrs xs).bind fun (ys : List Str) => if (ys.map fun y : Str => y.length).sum + ys.length * a.length ≤ 10000 then some (U.str (Txt.join a ys), c) else none) = some (z, c') →
      ∃ a' p, ∃ ys : List Str, V.str a = .str a' ∧ [y] = [.ref p] ∧ (SqL X.K H p (ys.map V.str) ∨ SqT X.K H p (ys.map V.str)) ∧ (ys.map fun y : Str => y.length).sum + ys.length * a'.length ≤ 16777216 ∧ Q (.str (Txt.join a' ys)) H := fun {p xs vs} ey hs rs e => by
    cases e1 : uStrs xs with
    | none => rw [e1] at e; cases e
    | some ys =>
      rw [e1] at e
      have e : (if (ys.map fun y : Str => y.length).sum + ys.length * a.length ≤ 10000 then some (U.str (Txt.join a ys), c) else none) = some (z, c') := e
      cases uStrs_ok rs e1
      split at e
      · cases e
        subst ey
        exact ⟨a, p, ys, rfl, rfl, by rw [hK]; exact hs, by omega, Then.here h hh rfl⟩
      · cases e
  split at e
  · rename_i xs
    obtain ⟨p, vs, ey, hs, rs⟩ := tview_ok (u := .tup xs) hh r rfl
    exact fin ey (.inr (SqT.of hs)) rs e
  · cases e1 : lview c v with
    | none => rw [e1] at e; cases e
    | some xs =>
      rw [e1] at e
      obtain ⟨p, vs, ey, hs, rs⟩ := lview_ok hh r e1
      exact fin ey (.inl hs) rs e
/-- x.append(y) -/
def fApp (u : U) (us : List U) (c : Cs) : Option (U × Cs) := match u, us with
  | .cel n, [y] => match c[n]? with
    | some (.lst xs) => if xs.length < 10000 then some (.non, c.set n (.lst (xs ++ [y]))) else none
    | _ => none
  | _, _ => none
def mApp (m : ME) (ms : MA) : ME := fun τ c => (m τ c).bind fun u c1 => match u with
  | .cel n => match c1[n]? with
    | some (.lst _) => (ms τ c1).bind fun us c2 => ofO (fApp (.cel n) us c2)
    | _ => .bad
  | _ => .bad
theorem de_app (hK : X.K = g.K) (ho : DE X g Wx o m) (ha : DA X g Wx (e :: es) ms)
    (hbase : attributeBase o "append" X.env (eval o X.env) = eval o X.env := by rfl)
    (hfew : ((backTo pos (starEach (e :: es) X.env)).all (fun x => !x.1) && (backToKw pos (keywordEach [] X.env)).all (fun x => x.1.isSome)
      && decide ((e :: es).length + ([] : List Keyword).length + (if ([] : List Keyword).isEmpty then 0 else 1) < 30)) = true := by rfl)
    (hline : (apos.endLine == pos.line) = true := by rfl) (hs : starEach (e :: es) X.env = (false, eval e X.env) :: starEach es X.env := by rfl) (hplain : (backTo pos (starEach es X.env)).any (·.1) = false := by rfl) :
    DE X g Wx (.Call (.Attribute o "append" apos) (e :: es) [] pos) (mApp m ms) := by
  refine pe_imp (pe_bm PySem.F.plainAttrs_list PySem.F.slot_list_append PySem.F.type_list_append mt_append ho ha hbase hfew hline hs hplain) fun σ H Q ⟨w, τ, c, hs, hh, q⟩ => ?_
  refine rd_bind q hs hh fun u c1 w1 x H1 e1 h1 r1 s1 q1 => ?_
  split at q1
  · rename_i n
    split at q1
    · rename_i xs0 hq0
      obtain ⟨a, vs0, rfl, hs0, _⟩ := lviewM_ok (u := .cel n) h1 r1 (by unfold lviewM; dsimp only; rw [hq0])
      refine ⟨.inl ⟨rfl, vs0, by rw [hK]; exact SqL.of hs0⟩, ?_⟩
      refine rd_bind q1 s1 h1 fun us c2 w2 ys H2 e2 h2 r2 s2 q2 => ?_
      obtain ⟨z, c', e, q3⟩ := ofO_ok q2
      unfold fApp at e
      split at e
      · rename_i n' y heq
        cases heq
        split at e
        · rename_i xs hq
          split at e
          · rename_i hl
            cases e
            obtain ⟨v, rfl, rv⟩ := uvs1 r2
            obtain ⟨a', e', k, kf⟩ := h2.cel n _ hq
            obtain ⟨vs, hv, rs⟩ := k
            have ea : a = a' := by
              obtain ⟨a0, q0, q1⟩ := r1.up e2
              rw [e'] at q0; cases q0
              exact V.ref.inj q1
            subst ea
            refine ⟨a, vs, v, rfl, rfl, hv, by rw [← rs.length, sizeLine_eq]; omega, ?_⟩
            exact Post.here q3 (h2.setC hq rfl e' rfl ⟨_, upd_same, rs.app (UVs.one rv)⟩) rfl
          · cases e
        · cases e
      · cases e
    · exact q1.elim
  · exact q1.elim
end
end Mi
namespace Mi
open PySem PySem.Spec PyProof.Rows L2

/-! ### targets -/
abbrev TT1 := U → T → Cs → Option T
abbrev TT2 := List U → T → Cs → Option T
def Wip (ix : List Nat) (σ σ' : L2.St) : Prop := ∀ vs : List Nat, (∀ i ∈ ix, i ∈ vs) → L2.wipe σ' vs = L2.wipe σ vs
def rdT (g : Gc) (ix : List Nat) (t : TT1) : TG := fun v σ H Q => ∃ w τ c u τ', SR g w τ σ ∧ HRel g w c H ∧ UV g w u v ∧ t u τ c = some τ' ∧ ∀ σ', SR g w τ' σ' → Wip ix σ σ' → Q σ' H
def rdTs (g : Gc) (ix : List Nat) (t : TT2) : TGs := fun vs σ H Q => ∃ w τ c us τ', SR g w τ σ ∧ HRel g w c H ∧ UVs g w us vs ∧ t us τ c = some τ' ∧ ∀ σ', SR g w τ' σ' → Wip ix σ σ' → Q σ' H
abbrev DG (X : Cx) (g : Gc) (ix : List Nat) (tg : Expr) (t : TT1) : Prop := PG X tg (rdT g ix t)
abbrev DGs (X : Cx) (g : Gc) (ix : List Nat) (tgs : List Expr) (t : TT2) : Prop := PGs X tgs (rdTs g ix t)
theorem pg_imp {X : Cx} {e : Expr} {t t' : TG} (h : PG X e t) (i : ∀ v σ H Q, t' v σ H Q → t v σ H Q) : PG X e t' := ⟨fun pins s σ H v u Q I r q => h.run pins s σ H v u Q I r (i _ _ _ _ q)⟩
theorem pgs_imp {X : Cx} {e : List Expr} {t t' : TGs} (h : PGs X e t) (i : ∀ v σ H Q, t' v σ H Q → t v σ H Q) : PGs X e t' := ⟨fun pins s σ H v u Q I r q => h.run pins s σ H v u Q I r (i _ _ _ _ q)⟩
theorem wipe_set {σ : L2.St} {i : Nat} {x : Option V} : ∀ {vs : List Nat}, i ∈ vs → L2.wipe (σ.set i x) vs = L2.wipe σ vs
  | [], h => by cases h
  | v :: vs, h => by
    unfold L2.wipe
    by_cases hv : i ∈ vs
    · rw [wipe_set hv]
    · have e : i = v := by
        rcases List.mem_cons.mp h with z | z
        · exact z
        · exact absurd z hv
      subst e
      have out : ∀ {us : List Nat}, i ∉ us → L2.wipe (σ.set i x) us = (L2.wipe σ us).set i x := fun {us} => by
        induction us with
        | nil => intro _; rfl
        | cons k ks ih =>
          intro hn
          have hk : i ≠ k := fun z => hn (by simp [z])
          unfold L2.wipe
          rw [ih fun z => hn (List.mem_cons_of_mem _ z), List.set_comm _ _ (Ne.symm hk)]
      rw [out hv, List.set_set]
section
variable {X : Cx} {g : Gc} {Wx : WX} {e a b o f tg iter elt : Expr} {es : List Expr} {m n k : ME} {ms : MA} {mt : MT} {pos pos' p p2 q apos : Pos} {x y : Str} {st : Stmt} {rest body orelse : List Stmt} {s1 s2 : MS}
def tName (i : Nat) : TT1 := fun u τ _ => some (τ.set i (some u))
theorem dg_name (i : Nat) (hN : X.N.Nodup) (hi : X.N[i]? = some x := by rfl) (hx : Loc X.env.scope x := by first | exact .inl rfl | exact .inr rfl) (hf : X.fn x = true ∨ X.env.scope.names.lookup x = some .local := by first | exact .inl rfl | exact .inr rfl) : DG X g [i] (.Name x pos) (tName i) :=
  pg_imp (pg_name hN hi hx hf) fun v σ H Q ⟨w, τ, c, u, τ', hs, hh, r, e, q⟩ => by
    cases e
    exact q _ (hs.set r) fun vs h => wipe_set (h i (by simp))
def tsNil : TT2 := fun us τ _ => match us with
  | [] => some τ
  | _ => none
def tsCons (t : TT1) (ts : TT2) : TT2 := fun us τ c => match us with
  | u :: r => (t u τ c).bind fun τ1 => ts r τ1 c
  | [] => none
theorem dgs_nil : DGs X g [] [] tsNil := pgs_imp pgs_nil fun vs σ H Q ⟨w, τ, c, us, τ', hs, hh, r, e, q⟩ => by
  cases us with
  | nil => cases e; exact ⟨r, q σ hs fun _ _ => rfl⟩
  | cons u us => cases e
theorem dgs_cons {ix iy : List Nat} {t : TT1} {ts : TT2} (h1 : DG X g ix e t) (h2 : DGs X g iy es ts) (hs : (assignEach (e :: es) X.env).map (·.2) = assign e X.env :: (assignEach es X.env).map (·.2) := by rfl) : DGs X g (ix ++ iy) (e :: es) (tsCons t ts) :=
  pgs_imp (pgs_cons h1 h2 hs) fun vs σ H Q ⟨w, τ, c, us, τ', hs, hh, r, e, q⟩ => by
    cases us with
    | nil => cases e
    | cons u us =>
      obtain ⟨v, vr, rfl, r1, r2⟩ := r
      have e : (t u τ c).bind (fun τ1 => ts us τ1 c) = some τ' := e
      cases e1 : t u τ c with
      | none => rw [e1] at e; cases e
      | some τ1 =>
        rw [e1] at e
        refine ⟨v, vr, rfl, w, τ, c, u, τ1, hs, hh, r1, e1, fun σ1 hs1 w1 => ⟨w, τ1, c, us, τ', hs1, hh, r2, e, fun σ2 hs2 w2 => q σ2 hs2 fun vs h => ?_⟩⟩
        rw [w2 vs fun i hi => h i (List.mem_append_right _ hi), w1 vs fun i hi => h i (List.mem_append_left _ hi)]
def tTup (ts : TT2) : TT1 := fun u τ c => (tview u).bind fun us => ts us τ c
theorem dg_tup {ix : List Nat} {ts : TT2} {kk : Nat} {nn : Nat} (hK : X.K = g.K) (hc : X.calm = true) (h : DGs X g ix es ts) (hl : ∀ us τ c τ', ts us τ c = some τ' → us.length = nn) (hn : (assignEach es X.env).length = nn := by rfl) (hst : (assignEach es X.env).findIdx? (·.1) = none := by rfl) : DG X g ix (.Tuple es kk pos) (tTup ts) :=
  pg_imp (pg_tup hc h hn hst) fun v σ H Q ⟨w, τ, c, u, τ', hs, hh, r, e, q⟩ => by
    unfold tTup at e
    cases e1 : tview u with
    | none => rw [e1] at e; cases e
    | some us =>
      rw [e1] at e
      obtain ⟨a, vs, rfl, ht, rs⟩ := tview_ok hh r e1
      exact ⟨a, vs, rfl, by rw [hK]; exact SqT.of ht, by rw [← rs.length]; exact hl us τ c τ' e, w, τ, c, us, τ', hs, hh, rs, e, q⟩
theorem ts_len0 : ∀ us τ c τ', tsNil us τ c = some τ' → us.length = 0 := fun us τ c τ' h => by
  cases us with
  | nil => rfl
  | cons u us => cases h
theorem ts_lenS {t : TT1} {ts : TT2} {nn : Nat} (h : ∀ us τ c τ', ts us τ c = some τ' → us.length = nn) : ∀ us τ c τ', tsCons t ts us τ c = some τ' → us.length = nn + 1 := fun us τ c τ' e => by
  cases us with
  | nil => cases e
  | cons u us =>
    have e : (t u τ c).bind (fun τ1 => ts us τ1 c) = some τ' := e
    cases e1 : t u τ c with
    | none => rw [e1] at e; cases e
    | some τ1 => rw [e1] at e; rw [List.length_cons, h us τ1 c τ' e]

/-! ### statements -/
def msNil : MS := fun τ c => .nx τ c
theorem dss_nil : DSs X g Wx [] msNil := pss_imp pss_nil fun D σ H ⟨w, τ, c, hs, hh, q⟩ => q w σ H (Ext.refl w) hh hs
def msCons (s1 s2 : MS) : MS := fun τ c => (s1 τ c).seq s2
theorem dss_cons (h1 : DS X g Wx st s1) (h2 : DSs X g Wx rest s2) : DSs X g Wx (st :: rest) (msCons s1 s2) :=
  pss_imp (pss_cons h1 h2) fun D σ H ⟨w, τ, c, hs, hh, q⟩ => by
    refine ⟨w, τ, c, hs, hh, ?_⟩
    unfold msCons at q
    revert q
    cases s1 τ c with
    | nx τ1 c1 => exact fun q w1 σ1 H1 e1 h1 r1 => ⟨w1, τ1, c1, r1, h1, PostS.up e1 q⟩
    | ret u c1 => exact fun q => q
    | bk τ1 c1 => exact fun q => q
    | ct τ1 c1 => exact fun q => q
    | exc e τ1 c1 => exact fun q => q
    | bad => exact fun q => q
theorem dss_one (h1 : DS X g Wx st s1) : DSs X g Wx [st] s1 := pss_one h1
def msExpr (m : ME) : MS := fun τ c => (m τ c).bindS τ fun _ c1 => .nx τ c1
theorem ds_expr (h : DE X g Wx e m) (hs : swapsWith e none pos.line X.env = pure false := by rfl) : DS X g Wx (.Expr e pos) (msExpr m) :=
  ps_imp (ps_expr h hs) fun D σ H ⟨w, τ, c, hs, hh, q⟩ => rd_bindS q hs hh fun u c1 w1 x H1 e1 h1 r1 s1 q1 => q1 w1 σ H1 (Ext.refl w1) h1 s1
def msRet (m : ME) : MS := fun τ c => (m τ c).bindS τ fun u c1 => .ret u c1
theorem ds_ret (h : DE X g Wx e m) : DS X g Wx (.Return (some e) pos) (msRet m) :=
  ps_imp (ps_ret h) fun D σ H ⟨w, τ, c, hs, hh, q⟩ => rd_bindS q hs hh fun u c1 w1 x H1 e1 h1 r1 s1 q1 => q1 w1 x H1 (Ext.refl w1) h1 r1
def msRetN : MS := fun _ c => .ret .non c
theorem ds_retN : DS X g Wx (.Return none pos) msRetN := ps_imp ps_retN fun D σ H ⟨w, τ, c, hs, hh, q⟩ => q w .non H (Ext.refl w) hh rfl
def msIf (mt : MT) (s1 s2 : MS) : MS := fun τ c => (mt τ c).bindS τ fun b c1 => if b then s1 τ c1 else s2 τ c1
theorem ds_if (h : DT X g Wx e mt) (h1 : DSs X g Wx body s1) (h2 : DSs X g Wx orelse s2) : DS X g Wx (.If e body orelse pos) (msIf mt s1 s2) :=
  ps_imp (ps_if h h1 h2) fun D σ H ⟨w, τ, c, hs, hh, q⟩ => rd_bindS q hs hh fun b c1 w1 b' H1 e1 h1 r1 s1 q1 => by
    cases (show b = b' from r1)
    cases b with
    | true => exact ⟨w1, τ, c1, s1, h1, q1⟩
    | false => exact ⟨w1, τ, c1, s1, h1, q1⟩
theorem ds_pass : DS X g Wx (.Pass pos) msNil := ps_imp ps_pass fun D σ H ⟨w, τ, c, hs, hh, q⟩ => q w σ H (Ext.refl w) hh hs
def msBk : MS := fun τ c => .bk τ c
def msCt : MS := fun τ c => .ct τ c
theorem ds_break : DS X g Wx (.Break pos) msBk := ps_imp ps_break fun D σ H ⟨w, τ, c, hs, hh, q⟩ => q w σ H (Ext.refl w) hh hs
theorem ds_continue : DS X g Wx (.Continue pos) msCt := ps_imp ps_continue fun D σ H ⟨w, τ, c, hs, hh, q⟩ => q w σ H (Ext.refl w) hh hs
def msSet (i : Nat) (m : ME) : MS := fun τ c => (m τ c).bindS τ fun u c1 => .nx (τ.set i (some u)) c1
theorem set_run {D : Ends} {i : Nat} {w : Wd} {τ : T} {c : Cs} {σ : L2.St} {H : Hp} (hs : SR g w τ σ) (hh : HRel g w c H) (q : PostS g w Wx D (msSet i m τ c)) : rd g Wx (UV g) m σ H fun x H1 => gName i x σ H1 D.nx :=
  rd_bindS q hs hh fun u c1 w1 x H1 e1 h1 r1 s1 q1 => q1 w1 _ H1 (Ext.refl w1) h1 (s1.set r1)
theorem ds_set (i : Nat) (hN : X.N.Nodup) (he : DE X g Wx e m) (hi : X.N[i]? = some x := by rfl) (hx : Loc X.env.scope x := by first | exact .inl rfl | exact .inr rfl) (hs : swapsWith e (some (.Name x pos')) pos.line X.env = pure false := by rfl)
    (hf : X.fn x = true ∨ X.env.scope.names.lookup x = some .local := by first | exact .inl rfl | exact .inr rfl) : DS X g Wx (.Assign [.Name x pos'] e pos) (msSet i m) :=
  ps_imp (ps_set hN hi hx he hs hf) fun D σ H ⟨w, τ, c, hs, hh, q⟩ => set_run hs hh q
def msAsg (t : TT1) (m : ME) : MS := fun τ c => (m τ c).bindS τ fun u c1 => match t u τ c1 with
  | some τ' => .nx τ' c1
  | none => .bad
theorem ds_asg {ix : List Nat} {t : TT1} (he : DE X g Wx e m) (hg : DG X g ix tg t) (hs : swapsWithSole [tg] e pos.line X.env = pure false := by rfl) (hw : swappedStores [tg] e X.env = pure none := by rfl)
    (h1 : (assignEach [tg] X.env).map (·.2) = [assign tg X.env] := by rfl) : DS X g Wx (.Assign [tg] e pos) (msAsg t m) :=
  ps_imp (ps_asg he hg hs hw h1) fun D σ H ⟨w, τ, c, hs, hh, q⟩ => rd_bindS q hs hh fun u c1 w1 x H1 e1 h1 r1 s1 q1 => by
    cases et : t u τ c1 with
    | none => rw [et] at q1; exact q1.elim
    | some τ' => rw [et] at q1; exact ⟨w1, τ, c1, u, τ', s1, h1, r1, et, fun σ' s' _ => q1 w1 σ' H1 (Ext.refl w1) h1 s'⟩
/-- a, b = (x, y) -/
def msPar (i j : Nat) (ms : MA) : MS := fun τ c => (ms τ c).bindS τ fun us c1 => match us with
  | [u, v] => .nx ((τ.set i (some u)).set j (some v)) c1
  | _ => .bad
theorem ds_par (i j : Nat) {kt k2 : Nat} {px py pt pt2 : Pos} (hc : X.calm = true) (hN : X.N.Nodup) (ha : DA X g Wx [a, b] ms) (hw : swappedStores [.Tuple [.Name x px, .Name y py] kt pt] (.Tuple [a, b] k2 pt2) X.env = pure (some [x, y]) := by rfl) (hi : X.N[i]? = some x := by rfl) (hj : X.N[j]? = some y := by rfl) (hij : i ≠ j := by decide)
    (hx : X.env.scope.names.lookup x = some .local := by rfl) (hy : X.env.scope.names.lookup y = some .local := by rfl)
    (hs : swapsWithSole [.Tuple [.Name x px, .Name y py] kt pt] (.Tuple [a, b] k2 pt2) pos.line X.env = pure false := by rfl) :
    DS X g Wx (.Assign [.Tuple [.Name x px, .Name y py] kt pt] (.Tuple [a, b] k2 pt2) pos) (msPar i j ms) :=
  ps_imp (ps_par hc hN hi hj hij hx hy ha hw hs) fun D σ H ⟨w, τ, c, hs, hh, q⟩ => rd_bindS q hs hh fun us c1 w1 xs H1 e1 h1 r1 s1 q1 => by
    split at q1
    · obtain ⟨v, v', rfl, ra, rb⟩ := uvs2 r1
      exact ⟨v, v', rfl, q1 w1 _ H1 (Ext.refl w1) h1 ((s1.set ra).set rb)⟩
    · exact q1.elim
/-- o[i] = e, o a list -/
def fPut (o i v : U) (c : Cs) : Option Cs := match o, i with
  | .cel nn, .int z => match c[nn]? with
    | some (.lst xs) => (ixN xs.length z).map fun j => c.set nn (.lst (xs.set j v))
    | _ => none
  | _, _ => none
def msPut (mo mi mv : ME) : MS := fun τ c => (mv τ c).bindS τ fun v c1 => (mo τ c1).bindS τ fun o c2 => (mi τ c2).bindS τ fun i c3 => match fPut o i v c3 with
  | some c4 => .nx τ c4
  | none => .bad
theorem ds_put {ei : Expr} {mo mi mv : ME} {tpos : Pos} (hv : DE X g Wx e mv) (ho : DE X g Wx o mo) (hi : DE X g Wx ei mi)
    (ha : ∀ v, assign (.Subscript o ei tpos) X.env v = (do
      let ov ← holding [v] (eval o X.env)
      let iv ← holding [v, ov] (eval ei X.env)
      standAt tpos
      holding [v, ov, iv] (setItem ov iv v)
      release [v, ov, iv] []) := by intro _; rfl)
    (hs : swapsWithSole [.Subscript o ei tpos] e pos.line X.env = pure false := by rfl) (hw : swappedStores [.Subscript o ei tpos] e X.env = pure none := by rfl)
    (h1 : (assignEach [.Subscript o ei tpos] X.env).map (·.2) = [assign (.Subscript o ei tpos) X.env] := by rfl) : DS X g Wx (.Assign [.Subscript o ei tpos] e pos) (msPut mo mi mv) := by
  refine ps_imp (ps_asg hv (pg_sub ho hi set_list ha) hs hw h1) fun D σ H ⟨w, τ, c, hs, hh, q⟩ => ?_
  refine rd_bindS q hs hh fun v c1 w1 vv H1 e1 h1 r1 s1 q1 => rd_bindS q1 s1 h1 fun ou c2 w2 ov H2 e2 h2 r2 s2 q2 => rd_bindS q2 s2 h2 fun iu c3 w3 iv H3 e3 h3 r3 s3 q3 => ?_
  cases ep : fPut ou iu v c3 with
  | none => rw [ep] at q3; exact q3.elim
  | some c4 =>
    rw [ep] at q3
    unfold fPut at ep
    split at ep
    · rename_i nn z
      split at ep
      · rename_i xs hq
        cases ej : ixN xs.length z with
        | none => rw [ej] at ep; cases ep
        | some j =>
          rw [ej] at ep; cases ep
          cases (show iv = _ from r3)
          obtain ⟨a', e', ⟨vs, hv, rs⟩, kf⟩ := h3.cel nn _ hq
          obtain ⟨a0, q0, rfl⟩ := r2.up e3
          rw [e'] at q0; cases q0
          refine ⟨a', vs, z, j, rfl, rfl, hv, by rw [← rs.length]; exact ej, ?_⟩
          exact q3 w3 σ _ (Ext.refl w3) (h3.setC hq rfl e' rfl ⟨_, upd_same, rs.set j ((r1.up e2).up e3)⟩) s3
      · cases ep
    · cases ep
/-- x op= e -/
def msAug (i : Nat) (f : U → U → Cs → Option (U × Cs)) (m : ME) : MS := fun τ c => match τ[i]? with
  | some (some u) => (m τ c).bindS τ fun v c1 => (ofO (f u v c1)).bindS τ fun z c2 => .nx (τ.set i (some z)) c2
  | _ => .bad
theorem ds_aug (i : Nat) {op : Operator} {f : U → U → Cs → Option (U × Cs)} {r : R2} (hN : X.N.Nodup) (hp : PIp X op r) (hf : OpU g f r) (he : DE X g Wx e m) (hi : X.N[i]? = some x := by rfl) (hx : Loc X.env.scope x := by first | exact .inl rfl | exact .inr rfl)
    (hff : X.fn x = true ∨ X.env.scope.names.lookup x = some .local := by first | exact .inl rfl | exact .inr rfl) : DS X g Wx (.AugAssign (.Name x pos') op e pos) (msAug i f m) := by
  refine ps_imp (ps_aug hN hi hx he hp hff) fun D σ H ⟨w, τ, c, hs, hh, q⟩ => ?_
  unfold msAug at q
  split at q
  · rename_i u eu
    obtain ⟨v, ev, rv⟩ := hs.get i u eu
    refine ⟨v, ev, rd_bindS q hs hh fun t c1 w1 y H1 e1 h1 r1 s1 q1 => ?_⟩
    cases e : f u t c1 with
    | none => rw [e] at q1; exact q1.elim
    | some pr =>
      obtain ⟨z, c2⟩ := pr
      rw [e] at q1
      exact hf w1 c1 H1 u t v y z c2 _ h1 (rv.up e1) r1 e fun w2 b H2 e2 h2 r2 => q1 w2 _ H2 e2 h2 ((s1.up e2).set r2)
  · exact q.elim

/-! ### while -/
def whGo (mt : MT) (s1 : MS) : Nat → T → Cs → RS
  | 0, _, _ => .bad
  | k + 1, τ, c => (mt τ c).bindS τ fun b c1 => if b then (match s1 τ c1 with
      | .nx τ2 c2 => whGo mt s1 k τ2 c2
      | .ct τ2 c2 => whGo mt s1 k τ2 c2
      | .bk τ2 c2 => .nx τ2 c2
      | r => r) else .nx τ c1
def msWhile (fuel : Nat) (mt : MT) (s1 : MS) : MS := fun τ c => whGo mt s1 fuel τ c
theorem ds_while (fuel : Nat) (hp : PassesOwn (model X.prog X.w) X.A X.env X.xe) (h : DT X g Wx e mt) (hb : DSs X g Wx body s1) : DS X g Wx (.While e body [] pos) (msWhile fuel mt s1) := by
  refine ps_imp (ps_while hp h hb) fun D σ H ⟨w, τ, c, hs, hh, q⟩ => ?_
  refine ⟨fun k σ H => ∃ w τ c, SR g w τ σ ∧ HRel g w c H ∧ PostS g w Wx D (whGo mt s1 k τ c), ⟨fuel, w, τ, c, hs, hh, q⟩, ?_⟩
  rintro k σ H ⟨w, τ, c, hs, hh, q⟩
  cases k with
  | zero => exact q.elim
  | succ k =>
    refine rd_bindS q hs hh fun b c1 w1 b' H1 e1 h1 r1 s1' q1 => ?_
    cases (show b = b' from r1)
    cases b with
    | false => exact q1 w1 σ H1 (Ext.refl w1) h1 s1'
    | true =>
      refine ⟨fun σ' H' => ∃ w τ c, SR g w τ σ' ∧ HRel g w c H' ∧ PostS g w Wx D (whGo mt s1 k τ c), fun σ' H' n => ⟨k, Nat.lt_succ_self k, n⟩, w1, τ, c1, s1', h1, ?_⟩
      have q2 : PostS g w1 Wx D (match s1 τ c1 with
        | .nx τ2 c2 => whGo mt s1 k τ2 c2
        | .ct τ2 c2 => whGo mt s1 k τ2 c2
        | .bk τ2 c2 => .nx τ2 c2
        | r => r) := q1
      revert q2
      cases s1 τ c1 with
      | nx τ2 c2 => exact fun q2 w2 σ2 H2 e2 h2 r2 => ⟨w2, τ2, c2, r2, h2, PostS.up e2 q2⟩
      | ct τ2 c2 => exact fun q2 w2 σ2 H2 e2 h2 r2 => ⟨w2, τ2, c2, r2, h2, PostS.up e2 q2⟩
      | bk τ2 c2 => exact fun q2 => q2
      | ret u c2 => exact fun q2 => q2
      | exc e τ2 c2 => exact fun q2 => q2
      | bad => exact fun q2 => q2

/-! ### what is walked -/
abbrev Src := Cs → Option (List U)
structure SrcOk (g : Gc) (w0 : Wd) (src : Src) (J : It) : Prop where
  go : ∀ w c H i u xs, Ext w0 w → HRel g w c H → src c = some xs → xs[i]? = some u → J.go i H ∧ ∀ x H', J.yld i H x H' → ∃ w', Ext w w' ∧ HRel g w' c H' ∧ UV g w' u x
  stop : ∀ w c H i xs, Ext w0 w → HRel g w c H → src c = some xs → xs.length ≤ i → J.stop i H
abbrev MI := T → Cs → R Src
abbrev DI (X : Cx) (g : Gc) (Wx : WX) (tg iter : Expr) (mi : MI) : Prop := PI X tg iter fun σ H Z => rd g Wx (SrcOk g) mi σ H Z
theorem pi_imp {t t' : TI} (h : PI X tg iter t) (i : ∀ σ H Z, t' σ H Z → t σ H Z) : PI X tg iter t' := ⟨fun pins s σ H Z I q => h.run pins s σ H Z I (i _ _ _ q)⟩
theorem lview_ref {w0 w : Wd} {c : Cs} {H : Hp} {u : U} {a : Addr} {xs : List U} (e : Ext w0 w) (r : UV g w0 u (.ref a)) (hh : HRel g w c H) (q : lview c u = some xs) : ∃ vs, SqL g.K H a vs ∧ UVs g w xs vs := by
  obtain ⟨b, vs, e1, hs, rs⟩ := lview_ok hh (r.up e) q
  cases e1
  exact ⟨vs, hs, rs⟩
theorem src_list {w0 : Wd} {u : U} {a : Addr} (r : UV g w0 u (.ref a)) : SrcOk g w0 (fun c => lview c u) (Itl g.K a) where
  go := fun w c H i z xs e hh q hz => by
    obtain ⟨vs, hs, rs⟩ := lview_ref e r hh q
    obtain ⟨v, hv, rv⟩ := rs.get hz
    refine ⟨⟨vs, v, hs, hv⟩, fun x H' ⟨eH, k⟩ => ?_⟩
    subst eH
    have := k vs hs
    rw [hv] at this; cases this
    exact ⟨w, Ext.refl w, hh, rv⟩
  stop := fun w c H i xs e hh q hl => by
    obtain ⟨vs, hs, rs⟩ := lview_ref e r hh q
    exact ⟨vs, hs, by rw [← rs.length]; exact hl⟩
def miList (m : ME) : MI := fun τ c => (m τ c).bind fun u c1 => match lview c1 u with
  | some _ => .ok (fun c => lview c u) c1
  | none => .bad
theorem di_list (hK : X.K = g.K) (h : DE X g Wx e m) : DI X g Wx tg e (miList m) :=
  pi_imp (pi_list h) fun σ H Z ⟨w, τ, c, hs, hh, q⟩ => rd_bind q hs hh fun u c1 w1 x H1 e1 h1 r1 s1 q1 => by
    split at q1
    · rename_i xs e
      obtain ⟨a, vs, rfl, hs', rs⟩ := lview_ok h1 r1 e
      exact ⟨a, rfl, ⟨vs, by rw [hK]; exact hs'⟩, by rw [hK]; exact Post.here q1 h1 (src_list r1)⟩
    · exact q1.elim
theorem src_tup {w0 : Wd} {a : Addr} {us : List U} (r : UV g w0 (.tup us) (.ref a)) : SrcOk g w0 (fun _ => some us) (Itt g.K a) where
  go := fun w c H i z xs e hh q hz => by
    cases q
    obtain ⟨b, vs, e1, hs, rs⟩ := tview_ok (u := .tup us) hh (r.up e) rfl
    cases e1
    obtain ⟨v, hv, rv⟩ := rs.get hz
    refine ⟨⟨vs, v, SqT.of hs, hv⟩, fun x H' ⟨eH, k⟩ => ?_⟩
    subst eH
    have := k vs (SqT.of hs)
    rw [hv] at this; cases this
    exact ⟨w, Ext.refl w, hh, rv⟩
  stop := fun w c H i xs e hh q hl => by
    cases q
    obtain ⟨b, vs, e1, hs, rs⟩ := tview_ok (u := .tup us) hh (r.up e) rfl
    cases e1
    exact ⟨vs, SqT.of hs, by rw [← rs.length]; exact hl⟩
def miTup (m : ME) : MI := fun τ c => (m τ c).bind fun u c1 => match tview u with
  | some xs => .ok (fun _ => some xs) c1
  | none => .bad
theorem di_tup (hK : X.K = g.K) (h : DE X g Wx e m) : DI X g Wx tg e (miTup m) :=
  pi_imp (pi_tup h) fun σ H Z ⟨w, τ, c, hs, hh, q⟩ => rd_bind q hs hh fun u c1 w1 x H1 e1 h1 r1 s1 q1 => by
    cases u with
    | tup us =>
      obtain ⟨a, vs, rfl, hs', rs⟩ := tview_ok (u := .tup us) h1 r1 rfl
      exact ⟨a, rfl, ⟨vs, by rw [hK]; exact SqT.of hs'⟩, by rw [hK]; exact Post.here q1 h1 (src_tup r1)⟩
    | _ => exact q1.elim
def signs (s : Str) : List U := s.cps.toList.map fun k => U.str ⟨#[k]⟩
theorem src_str {w0 : Wd} {s : Str} : SrcOk g w0 (fun _ => some (signs s)) (Its s) where
  go := fun w c H i z xs e hh q hz => by
    cases q
    unfold signs at hz
    rw [List.getElem?_map] at hz
    cases e1 : s.cps.toList[i]? with
    | none => rw [e1] at hz; cases hz
    | some k =>
      rw [e1] at hz; cases hz
      have hi : i < s.cps.size := by simpa using (List.getElem?_eq_some_iff.mp e1).1
      refine ⟨hi, fun x H' ⟨eH, k', hk, ex⟩ => ?_⟩
      subst eH ex
      have hk2 : s.cps.toList[i]? = some k' := by rw [Array.getElem?_toList]; exact hk
      rw [e1] at hk2; cases hk2
      exact ⟨w, Ext.refl w, hh, rfl⟩
  stop := fun w c H i xs e hh q hl => by
    cases q
    show s.cps.size ≤ i
    unfold signs at hl
    simpa using hl
def miStr (m : ME) : MI := fun τ c => (m τ c).bind fun u c1 => match u with
  | .str s => .ok (fun _ => some (signs s)) c1
  | _ => .bad
theorem di_str (h : DE X g Wx e m) : DI X g Wx tg e (miStr m) :=
  pi_imp (pi_str h) fun σ H Z ⟨w, τ, c, hs, hh, q⟩ => rd_bind q hs hh fun u c1 w1 x H1 e1 h1 r1 s1 q1 => by
    split at q1
    · cases (show x = _ from r1)
      exact ⟨_, rfl, Post.here q1 h1 src_str⟩
    · exact q1.elim
def ranged (lo : Int) (n : Nat) : List U := (List.range n).map fun i : Nat => U.int (lo + i)
theorem src_range {w0 : Wd} {lo : Int} {n : Nat} : SrcOk g w0 (fun _ => some (ranged lo n)) (Itr lo n) where
  go := fun w c H i z xs e hh q hz => by
    cases q
    unfold ranged at hz
    rw [List.getElem?_map] at hz
    cases e1 : (List.range n)[i]? with
    | none => rw [e1] at hz; cases hz
    | some k =>
      rw [e1] at hz; cases hz
      obtain ⟨hl, hk⟩ := List.getElem?_eq_some_iff.mp e1
      rw [List.getElem_range] at hk
      subst hk
      refine ⟨by show i < n; simpa using hl, fun x H' ⟨eH, ex⟩ => ?_⟩
      subst eH ex
      exact ⟨w, Ext.refl w, hh, rfl⟩
  stop := fun w c H i xs e hh q hl => by
    cases q
    show n ≤ i
    unfold ranged at hl
    simpa using hl
def miRng1 (m : MA) : MI := fun τ c => (m τ c).bind fun us c1 => match us with
  | [.int j] => if -(2 ^ 62) ≤ j ∧ j < 2 ^ 62 then .ok (fun _ => some (ranged 0 j.toNat)) c1 else .bad
  | _ => .bad
theorem di_range1 (hm : X.mg "range" = none) (h : DA X g Wx [e] ms) (hg : Gl X "range" := by rfl) (hs : starEach [e] X.env = [(false, eval e X.env)] := by rfl) : DI X g Wx tg (.Call (.Name "range" p) [e] [] pos) (miRng1 ms) :=
  pi_imp (pi_range1 hg hm h hs) fun σ H Z ⟨w, τ, c, hs, hh, q⟩ => rd_bind q hs hh fun us c1 w1 xs H1 e1 h1 r1 s1 q1 => by
    split at q1
    · split at q1
      · rename_i j k
        obtain ⟨v, rfl, rv⟩ := uvs1 r1
        cases (show v = _ from rv)
        exact ⟨_, rfl, k.1, k.2, Post.here q1 h1 src_range⟩
      · exact q1.elim
    · exact q1.elim
def miRng2 (m : MA) : MI := fun τ c => (m τ c).bind fun us c1 => match us with
  | [.int i, .int j] => if -(2 ^ 62) ≤ i ∧ i < 2 ^ 62 ∧ -(2 ^ 62) ≤ j ∧ j < 2 ^ 62 then .ok (fun _ => some (ranged i (j - i).toNat)) c1 else .bad
  | _ => .bad
theorem di_range2 (hm : X.mg "range" = none) (h : DA X g Wx [a, b] ms) (hg : Gl X "range" := by rfl) (hs : starEach [a, b] X.env = [(false, eval a X.env), (false, eval b X.env)] := by rfl) (hs2 : starEach [b] X.env = [(false, eval b X.env)] := by rfl) : DI X g Wx tg (.Call (.Name "range" p) [a, b] [] pos) (miRng2 ms) :=
  pi_imp (pi_range2 hg hm h hs hs2) fun σ H Z ⟨w, τ, c, hs, hh, q⟩ => rd_bind q hs hh fun us c1 w1 xs H1 e1 h1 r1 s1 q1 => by
    split at q1
    · split at q1
      · rename_i i j k
        obtain ⟨v, v', rfl, rv, rv'⟩ := uvs2 r1
        cases (show v = _ from rv); cases (show v' = _ from rv')
        exact ⟨_, _, rfl, k, Post.here q1 h1 src_range⟩
      · exact q1.elim
    · exact q1.elim

/-! ### for -/
def forGo (src : Src) (t : TT1) (body : MS) : Nat → Nat → T → Cs → RS
  | 0, i, τ, c => match src c with
    | some xs => if xs.length ≤ i then .nx τ c else .bad
    | none => .bad
  | k + 1, i, τ, c => match src c with
    | none => .bad
    | some xs => match xs[i]? with
      | none => .nx τ c
      | some u => match t u τ c with
        | none => .bad
        | some τ1 => match body τ1 c with
          | .nx τ2 c2 => forGo src t body k (i + 1) τ2 c2
          | .ct τ2 c2 => forGo src t body k (i + 1) τ2 c2
          | .bk τ2 c2 => .nx τ2 c2
          | r => r
def msFor (mi : MI) (t : TT1) (body : MS) : MS := fun τ c => (mi τ c).bindS τ fun src c1 => forGo src t body ((src c1).elim 0 List.length) 0 τ c1
theorem ds_for {ix : List Nat} {mi : MI} {t : TT1} (hp : PassesOwn (model X.prog X.w) X.A X.env X.xe) (hc : X.calm = true) (hi : DI X g Wx tg iter mi) (hg : DG X g ix tg t) (hb : DSs X g Wx body s1)
    (hs : ∀ x, foldedSetIterable iter X.env x = pure x := by intro _; rfl) : DS X g Wx (.For tg iter body [] pos) (msFor mi t s1) := by
  refine ps_imp (ps_for hp hc hi hg hb hs) fun D σ H ⟨w, τ, c, hs, hh, q⟩ => ?_
  refine rd_bindS q hs hh fun src c1 w1 J H1 e1 h1 so s1' q1 => ?_
  refine ⟨fun i k σ H => ∃ w τ c, Ext w1 w ∧ SR g w τ σ ∧ HRel g w c H ∧ PostS g w Wx D (forGo src t s1 k i τ c), ⟨_, w1, τ, c1, Ext.refl w1, s1', h1, q1⟩, ?_⟩
  rintro i k σ H ⟨w, τ, c, ew, hs, hh, q⟩
  have stp : ∀ {xs : List U}, src c = some xs → xs.length ≤ i → PostS g w Wx D (.nx τ c) → J.stop i H ∧ D.nx σ H := fun e hl q => ⟨so.stop w c H i _ ew hh e hl, q w σ H (Ext.refl w) hh hs⟩
  cases k with
  | zero =>
    unfold forGo at q
    split at q
    · split at q
      · exact .inl (stp (by assumption) (by assumption) q)
      · exact q.elim
    · exact q.elim
  | succ k =>
    unfold forGo at q
    split at q
    · exact q.elim
    · rename_i xs ex
      split at q
      · rename_i hx
        exact .inl (stp ex (List.getElem?_eq_none_iff.mp hx) q)
      · rename_i u hx
        obtain ⟨hgo, hy⟩ := so.go w c H i u xs ew hh ex hx
        refine .inr ⟨hgo, fun σ' H' => ∃ w τ c, Ext w1 w ∧ SR g w τ σ' ∧ HRel g w c H' ∧ PostS g w Wx D (forGo src t s1 k (i + 1) τ c), fun σ' H' n => ⟨k, Nat.lt_succ_self k, n⟩, fun x H' y => ?_⟩
        obtain ⟨w', e', h', r'⟩ := hy x H' y
        split at q
        · exact q.elim
        · rename_i τ1 et
          refine ⟨w', τ, c, u, τ1, hs.up e', h', r', et, fun σ2 s2 _ => ⟨w', τ1, c, s2, h', ?_⟩⟩
          have q := PostS.up e' q
          revert q
          cases s1 τ1 c with
          | nx τ2 c2 => exact fun q w3 σ3 H3 e3 h3 r3 => ⟨w3, τ2, c2, (ew.trans e').trans e3, r3, h3, PostS.up e3 q⟩
          | ct τ2 c2 => exact fun q w3 σ3 H3 e3 h3 r3 => ⟨w3, τ2, c2, (ew.trans e').trans e3, r3, h3, PostS.up e3 q⟩
          | bk τ2 c2 => exact fun q => q
          | ret u c2 => exact fun q => q
          | exc e τ2 c2 => exact fun q => q
          | bad => exact fun q => q
end
end Mi
namespace Mi
open PySem PySem.Spec PyProof.Rows L2

/-! ### a cell becomes a thing that is kept -/
theorem HRel.freeze {g : Gc} {w : Wd} {c : Cs} {H : Hp} {n : Nat} {a : Addr} {cl : Cell} {o : HO} (hh : HRel g w c H) (e : c[n]? = some cl) (d : isDead cl = false) (ha : w.ρ n = some a) (ho : H a = some o) :
    HRel g ⟨w.ρ, upd w.fz a o, w.ex⟩ (c.set n .dead) H ∧ Ext w ⟨w.ρ, upd w.fz a o, w.ex⟩ := by
  obtain ⟨a', e', _, f'⟩ := hh.cel n cl e
  rw [ha] at e'; cases e'
  have fa := f' d
  have hl : n < c.length := (List.getElem?_eq_some_iff.mp e).1
  have ex : Ext w ⟨w.ρ, upd w.fz a o, w.ex⟩ := ⟨fun b o' q => (upd_ne (fun z => by subst z; rw [fa] at q; cases q)).trans q, fun _ _ q => q, rfl⟩
  refine ⟨⟨fun b o' q => ?_, fun i cl' q => ?_, fun i hi => hh.out i (by simpa using hi), hh.inj, hh.xvs ex, hh.xns ex⟩, ex⟩
  · by_cases z : b = a
    · subst z
      have q' : upd w.fz b o b = some o' := q
      rw [upd_same] at q'; cases q'; exact ho
    · have q' : upd w.fz a o b = some o' := q
      rw [upd_ne z] at q'; exact hh.fz b o' q'
  · by_cases hi : i = n
    · subst hi
      rw [List.getElem?_set_self hl] at q
      cases q
      exact ⟨a, ha, ⟨o, upd_same⟩, fun z => by cases z⟩
    · rw [List.getElem?_set_ne (Ne.symm hi)] at q
      obtain ⟨b, e1, k, f⟩ := hh.cel i cl' q
      have nb : b ≠ a := fun z => by subst z; exact hi (hh.inj _ _ _ e1 ha)
      exact ⟨b, e1, k.step ex rfl, fun z => (upd_ne nb).trans (f z)⟩

/-! ### forgetting the last cells -/
mutual
def noCel : U → Bool
  | .cel _ => false
  | .tup xs => noCels xs
  | .lst xs => noCels xs
  | .slst xs => noCels xs
  | .dK _ xs => noCels xs
  | .dT _ xs => noCels xs
  | .obj _ _ xs => noCels xs
  | .ty _ => true
  | .exv => false
  | .err _ _ xs => noCels xs
  | .non => true
  | .bl _ => true
  | .int _ => true
  | .str _ => true
def noCels : List U → Bool
  | [] => true
  | x :: xs => noCel x && noCels xs
end
def cut (w : Wd) (n : Nat) : Wd := ⟨fun i => if i < n then w.ρ i else none, w.fz, w.ex⟩
section
variable {g : Gc} {w w0 : Wd} {n : Nat}
mutual
theorem UV.cut : ∀ {u : U} {v : V}, noCel u = true → UV g w u v → UV g (cut w n) u v
  | .non, _, _, r => r
  | .bl _, _, _, r => r
  | .int _, _, _, r => r
  | .str _, _, _, r => r
  | .cel _, _, h, _ => by simp [noCel] at h
  | .tup _, _, h, ⟨a, vs, e, q, r⟩ => ⟨a, vs, e, q, UVs.cut (by simpa [noCel] using h) r⟩
  | .lst _, _, h, ⟨a, vs, e, q, r⟩ => ⟨a, vs, e, q, UVs.cut (by simpa [noCel] using h) r⟩
  | .slst _, _, h, ⟨a, vs, e, q, r⟩ => ⟨a, vs, e, q, UVs.cut (by simpa [noCel] using h) r⟩
  | .dK _ _, _, h, ⟨a, vs, e, q, l, r⟩ => ⟨a, vs, e, q, l, UVs.cut (by simpa [noCel] using h) r⟩
  | .dT _ _, _, h, ⟨a, vs, e, q, l, r⟩ => ⟨a, vs, e, q, l, UVs.cut (by simpa [noCel] using h) r⟩
  | .obj _ _ _, _, h, ⟨a, dx, vs, e, q, l, r⟩ => ⟨a, dx, vs, e, q, l, UVs.cut (by simpa [noCel] using h) r⟩
  | .ty _, _, _, r => r
  | .err _ _ _, _, h, ⟨a, dx, vs, e, q, l, r⟩ => ⟨a, dx, vs, e, q, l, UVs.cut (by simpa [noCel] using h) r⟩
theorem UVs.cut : ∀ {us : List U} {vs : List V}, noCels us = true → UVs g w us vs → UVs g (cut w n) us vs
  | [], _, _, r => r
  | x :: xs, _, h, ⟨v, r, e, q, t⟩ => by
    have h' : noCel x = true ∧ noCels xs = true := by simpa [noCels] using h
    exact ⟨v, r, e, UV.cut h'.1 q, UVs.cut h'.2 t⟩
end
mutual
theorem UV.cut2 (hn : ∀ i a, w0.ρ i = some a → i < n) : ∀ {u : U} {v0 v : V}, UV g w0 u v0 → UV g w u v → UV g (Mi.cut w n) u v
  | .non, _, _, _, r => r
  | .bl _, _, _, _, r => r
  | .int _, _, _, _, r => r
  | .str _, _, _, _, r => r
  | .cel i, _, _, ⟨a0, e0, _⟩, ⟨a, e, q⟩ => ⟨a, (if_pos (hn i a0 e0)).trans e, q⟩
  | .tup _, _, _, ⟨_, _, _, _, r0⟩, ⟨a, vs, e, q, r⟩ => ⟨a, vs, e, q, UVs.cut2 hn r0 r⟩
  | .lst _, _, _, ⟨_, _, _, _, r0⟩, ⟨a, vs, e, q, r⟩ => ⟨a, vs, e, q, UVs.cut2 hn r0 r⟩
  | .slst _, _, _, ⟨_, _, _, _, r0⟩, ⟨a, vs, e, q, r⟩ => ⟨a, vs, e, q, UVs.cut2 hn r0 r⟩
  | .dK _ _, _, _, ⟨_, _, _, _, _, r0⟩, ⟨a, vs, e, q, l, r⟩ => ⟨a, vs, e, q, l, UVs.cut2 hn r0 r⟩
  | .dT _ _, _, _, ⟨_, _, _, _, _, r0⟩, ⟨a, vs, e, q, l, r⟩ => ⟨a, vs, e, q, l, UVs.cut2 hn r0 r⟩
  | .obj _ _ _, _, _, ⟨_, _, _, _, _, _, r0⟩, ⟨a, dx, vs, e, q, l, r⟩ => ⟨a, dx, vs, e, q, l, UVs.cut2 hn r0 r⟩
  | .ty _, _, _, _, r => r
  | .exv, _, _, _, r => r
  | .err _ _ _, _, _, ⟨_, _, _, _, _, _, r0⟩, ⟨a, dx, vs, e, q, l, r⟩ => ⟨a, dx, vs, e, q, l, UVs.cut2 hn r0 r⟩
theorem UVs.cut2 (hn : ∀ i a, w0.ρ i = some a → i < n) : ∀ {us : List U} {vs0 vs : List V}, UVs g w0 us vs0 → UVs g w us vs → UVs g (Mi.cut w n) us vs
  | [], _, _, _, r => r
  | _ :: _, _, _, ⟨_, _, _, q0, t0⟩, ⟨v, r, e, q, t⟩ => ⟨v, r, e, UV.cut2 hn q0 q, UVs.cut2 hn t0 t⟩
end
theorem CellOk.cut2 {H0 H : Hp} {a0 a : Addr} {cl : Cell} (hn : ∀ i a, w0.ρ i = some a → i < n) (h0 : CellOk g w0 H0 a0 cl) (h : CellOk g w H a cl) : CellOk g (Mi.cut w n) H a cl := by
  cases cl with
  | lst xs => obtain ⟨_, _, r0⟩ := h0; obtain ⟨vs, q, r⟩ := h; exact ⟨vs, q, r0.cut2 hn r⟩
  | ins C ns xs => obtain ⟨_, _, _, _, r0⟩ := h0; obtain ⟨dx, vs, q, l, r⟩ := h; exact ⟨dx, vs, q, l, r0.cut2 hn r⟩
  | dK ks xs => obtain ⟨_, _, _, r0⟩ := h0; obtain ⟨vs, q, l, r⟩ := h; exact ⟨vs, q, l, r0.cut2 hn r⟩
  | dT ks xs => obtain ⟨_, _, _, r0⟩ := h0; obtain ⟨vs, q, l, r⟩ := h; exact ⟨vs, q, l, r0.cut2 hn r⟩
  | dead => exact h
theorem HRel.cut {c0 c : Cs} {H0 H : Hp} (h0 : HRel g w0 c0 H0) (e : Ext w0 w) (h : HRel g w c H) (hc : c.take c0.length = c0) : HRel g (Mi.cut w c0.length) c0 H ∧ Ext w0 (Mi.cut w c0.length) := by
  have hn : ∀ i a, w0.ρ i = some a → i < c0.length := fun i a q => h0.ρ_lt q
  refine ⟨⟨h.fz, fun i cl q => ?_, fun i hi => if_neg (by omega), fun i j a e1 e2 => ?_, fun q hq => ?_, fun q => h.xn q⟩, ⟨e.fz, fun i a q => (if_pos (hn i a q)).trans (e.ρ i a q), e.ex⟩⟩
  · have hi : i < c0.length := (List.getElem?_eq_some_iff.mp q).1
    have q' : c[i]? = some cl := by
      rw [← hc] at q
      rw [List.getElem?_take_of_lt hi] at q
      exact q
    obtain ⟨a, e1, k, f⟩ := h.cel i cl q'
    obtain ⟨a0, e2, k0, _⟩ := h0.cel i cl q
    exact ⟨a, (if_pos hi).trans e1, k0.cut2 hn k, f⟩
  · have e1' : (if i < c0.length then w.ρ i else none) = some a := e1
    have e2' : (if j < c0.length then w.ρ j else none) = some a := e2
    split at e1'
    · split at e2'
      · exact h.inj i j a e1' e2'
      · cases e2'
    · cases e1'
  · obtain ⟨a, b, l, r⟩ := h.xv q hq
    exact ⟨a, b, l, UVs.cut2 hn (h0.xv q hq).2.2.2 r⟩
end

/-! ### freezing what a def hands back -/
def frzL (f : U → Cs → Option (U × Cs)) : List U → Cs → Option (List U × Cs)
  | [], c => some ([], c)
  | x :: xs, c => (f x c).bind fun p => (frzL f xs p.2).map fun q => (p.1 :: q.1, q.2)
def frz : Nat → U → Cs → Option (U × Cs)
  | 0, u, c => some (u, c)
  | k + 1, u, c => match u with
    | .cel n => match c[n]? with
      | some (.lst xs) => (frzL (frz k) xs c).bind fun p => match p.2[n]? with
        | some (.lst _) => some (.lst p.1, p.2.set n .dead)
        | _ => none
      | some (.ins C ns xs) => (frzL (frz k) xs c).bind fun p => match p.2[n]? with
        | some (.ins _ _ _) => some (.obj C ns p.1, p.2.set n .dead)
        | _ => none
      | some (.dK ks xs) => (frzL (frz k) xs c).bind fun p => match p.2[n]? with
        | some (.dK _ _) => some (.dK ks p.1, p.2.set n .dead)
        | _ => none
      | some (.dT ks xs) => (frzL (frz k) xs c).bind fun p => match p.2[n]? with
        | some (.dT _ _) => some (.dT ks p.1, p.2.set n .dead)
        | _ => none
      | _ => none
    | .tup xs => (frzL (frz k) xs c).map fun p => (.tup p.1, p.2)
    | u => some (u, c)
def FrzOk (g : Gc) (f : U → Cs → Option (U × Cs)) : Prop := ∀ w c H u v u' c', HRel g w c H → UV g w u v → f u c = some (u', c') → ∃ w', Ext w w' ∧ HRel g w' c' H ∧ UV g w' u' v
theorem frzL_ok {g : Gc} {f : U → Cs → Option (U × Cs)} (hf : FrzOk g f) {H : Hp} : ∀ {us : List U} {w : Wd} {c : Cs} {vs : List V} {us' : List U} {c' : Cs}, HRel g w c H → UVs g w us vs → frzL f us c = some (us', c') →
    ∃ w', Ext w w' ∧ HRel g w' c' H ∧ UVs g w' us' vs
  | [], w, c, vs, us', c', hh, r, e => by cases e; exact ⟨w, Ext.refl w, hh, r⟩
  | u :: us, w, c, vs, us', c', hh, ⟨v, t, ev, q, r⟩, e => by
    subst ev
    unfold frzL at e
    cases e1 : f u c with
    | none => rw [e1] at e; cases e
    | some p =>
      obtain ⟨u1, c1⟩ := p
      rw [e1] at e
      have e : (frzL f us c1).map (fun q => (u1 :: q.1, q.2)) = some (us', c') := e
      cases e2 : frzL f us c1 with
      | none => rw [e2] at e; cases e
      | some p2 =>
        obtain ⟨us2, c2⟩ := p2
        rw [e2] at e; cases e
        obtain ⟨w1, x1, h1, r1⟩ := hf w c H u v u1 c1 hh q e1
        obtain ⟨w2, x2, h2, r2⟩ := frzL_ok hf h1 (r.up x1) e2
        exact ⟨w2, x1.trans x2, h2, ⟨v, t, rfl, r1.up x2, r2⟩⟩
theorem frz_ok {g : Gc} : ∀ k : Nat, FrzOk g (frz k)
  | 0 => fun w c H u v u' c' hh r e => by cases e; exact ⟨w, Ext.refl w, hh, r⟩
  | k + 1 => by
    intro w c H u v u' c' hh r e
    have ih := frz_ok (g := g) k
    cases u with
    | cel n =>
      obtain ⟨a, ea, rfl⟩ := r
      unfold frz at e
      dsimp only at e
      split at e
      · rename_i xs hc
        obtain ⟨a', e', ⟨vs, hv, rs⟩, _⟩ := hh.cel n _ hc
        rw [ea] at e'; cases e'
        cases e1 : frzL (frz k) xs c with
        | none => rw [e1] at e; cases e
        | some p =>
          obtain ⟨us, c1⟩ := p
          rw [e1] at e
          obtain ⟨w1, x1, h1, r1⟩ := frzL_ok ih hh rs e1
          have e : (match c1[n]? with | some (.lst _) => some (U.lst us, c1.set n .dead) | _ => none) = some (u', c') := e
          split at e
          · rename_i ys hy
            cases e
            obtain ⟨h2, x2⟩ := h1.freeze hy rfl (x1.ρ _ _ ea) hv
            exact ⟨_, x1.trans x2, h2, ⟨a, vs, rfl, upd_same, r1.up x2⟩⟩
          · cases e
      · rename_i C ns xs hc
        obtain ⟨a', e', ⟨dx, vs, hv, hl, rs⟩, _⟩ := hh.cel n _ hc
        rw [ea] at e'; cases e'
        cases e1 : frzL (frz k) xs c with
        | none => rw [e1] at e; cases e
        | some p =>
          obtain ⟨us, c1⟩ := p
          rw [e1] at e
          obtain ⟨w1, x1, h1, r1⟩ := frzL_ok ih hh rs e1
          have e : (match c1[n]? with | some (.ins _ _ _) => some (U.obj C ns us, c1.set n .dead) | _ => none) = some (u', c') := e
          split at e
          · rename_i hy
            cases e
            obtain ⟨h2, x2⟩ := h1.freeze hy rfl (x1.ρ _ _ ea) hv
            exact ⟨_, x1.trans x2, h2, ⟨a, dx, vs, rfl, upd_same, hl, r1.up x2⟩⟩
          · cases e
      · rename_i ks xs hc
        obtain ⟨a', e', ⟨vs, hv, hl, rs⟩, _⟩ := hh.cel n _ hc
        rw [ea] at e'; cases e'
        cases e1 : frzL (frz k) xs c with
        | none => rw [e1] at e; cases e
        | some p =>
          obtain ⟨us, c1⟩ := p
          rw [e1] at e
          obtain ⟨w1, x1, h1, r1⟩ := frzL_ok ih hh rs e1
          have e : (match c1[n]? with | some (.dK _ _) => some (U.dK ks us, c1.set n .dead) | _ => none) = some (u', c') := e
          split at e
          · rename_i hy
            cases e
            obtain ⟨h2, x2⟩ := h1.freeze hy rfl (x1.ρ _ _ ea) hv
            exact ⟨_, x1.trans x2, h2, ⟨a, vs, rfl, upd_same, hl, r1.up x2⟩⟩
          · cases e
      · rename_i ks xs hc
        obtain ⟨a', e', ⟨vs, hv, hl, rs⟩, _⟩ := hh.cel n _ hc
        rw [ea] at e'; cases e'
        cases e1 : frzL (frz k) xs c with
        | none => rw [e1] at e; cases e
        | some p =>
          obtain ⟨us, c1⟩ := p
          rw [e1] at e
          obtain ⟨w1, x1, h1, r1⟩ := frzL_ok ih hh rs e1
          have e : (match c1[n]? with | some (.dT _ _) => some (U.dT ks us, c1.set n .dead) | _ => none) = some (u', c') := e
          split at e
          · rename_i hy
            cases e
            obtain ⟨h2, x2⟩ := h1.freeze hy rfl (x1.ρ _ _ ea) hv
            exact ⟨_, x1.trans x2, h2, ⟨a, vs, rfl, upd_same, hl, r1.up x2⟩⟩
          · cases e
      · cases e
    | tup xs =>
      obtain ⟨a, vs, rfl, hv, rs⟩ := r
      have e : (frzL (frz k) xs c).map (fun p => (U.tup p.1, p.2)) = some (u', c') := e
      cases e1 : frzL (frz k) xs c with
      | none => rw [e1] at e; cases e
      | some p =>
        rw [e1] at e; cases e
        obtain ⟨w1, x1, h1, r1⟩ := frzL_ok ih hh rs e1
        exact ⟨w1, x1, h1, ⟨a, vs, rfl, x1.fz _ _ hv, r1⟩⟩
    | _ => cases e; exact ⟨w, Ext.refl w, hh, r⟩
end Mi
namespace Mi
open PySem PySem.Spec PyProof.Rows L2

abbrev WF : WX := fun _ _ _ _ => False
section
variable {g : Gc} {w : Wd} {σ : L2.St} {Wx : WX} {α β γ δ : Type} {τ : T} {c : Cs} {H : Hp}
theorem rd_bindN {Rm : Wd → γ → δ → Prop} {m : T → Cs → R γ} {k : γ → Cs → R α} {F : R α → Prop} (hE : ∀ e c, ¬ F (.exc e c)) (hB : ¬ F .bad) (h : F ((m τ c).bind k)) (hs : SR g w τ σ) (hh : HRel g w c H) {Z : δ → Hp → Prop}
    (hk : ∀ a c1 w1 b H1, Ext w w1 → HRel g w1 c1 H1 → Rm w1 a b → SR g w1 τ σ → F (k a c1) → Z b H1) : rd g Wx Rm m σ H Z := by
  refine ⟨w, τ, c, hs, hh, ?_⟩
  revert h
  cases m τ c with
  | ok a c1 => intro h w1 b H1 e h1 r; exact hk a c1 w1 b H1 e h1 r (hs.up e) h
  | exc e c1 => exact fun h => (hE _ _ h).elim
  | bad => exact fun h => (hB h).elim
end
/-! ### comprehensions -/
def lcGo (src : Src) (t : TT1) (mt : MT) (me : ME) (τ0 : T) (n0 : Nat) : Nat → Nat → Cs → R Unit
  | 0, i, c => match src c with
    | some xs => if xs.length ≤ i then .ok () c else .bad
    | none => .bad
  | k + 1, i, c => match src c with
    | none => .bad
    | some xs => match xs[i]? with
      | none => .ok () c
      | some u => match t u τ0 c with
        | none => .bad
        | some τ1 => (mt τ1 c).bind fun b c2 => if b then (me τ1 c2).bind fun z c3 => match c3[n0]? with
            | some (.lst acc) => if acc.length < 10000 then lcGo src t mt me τ0 n0 k (i + 1) (c3.set n0 (.lst (acc ++ [z]))) else .bad
            | _ => .bad
          else lcGo src t mt me τ0 n0 k (i + 1) c2
open Classical in
/-- behind a comprehension: 0 a kept list, the cells as they were; 1 a kept list, the cells as they are; 2 a cell -/
noncomputable def lcEnd (mode : Nat) (c1 : Cs) (r : R Unit) : R U := match r with
  | .ok _ c2 => if mode = 2 then .ok (.cel c1.length) c2 else match c2[c1.length]? with
    | some (.lst acc) => if mode = 1 then .ok (.lst acc) (c2.set c1.length .dead) else if noCels acc = true ∧ c2.take c1.length = c1 then .ok (.lst acc) c1 else .bad
    | _ => .bad
  | _ => .bad
noncomputable def mLc (mode : Nat) (vs : List Nat) (mi : MI) (t : TT1) (mt : MT) (me : ME) : ME := fun τ c => (mi τ c).bind fun src c1 =>
  lcEnd mode c1 (lcGo src t mt me (wipeT τ vs) c1.length ((src (c1 ++ [.lst []])).elim 0 List.length) 0 (c1 ++ [.lst []]))
def mtYes : MT := fun _ c => .ok true c
section
variable {X : Cx} {g : Gc} {Wx : WX} {e a b o f tg iter elt : Expr} {es ifs : List Expr} {m n k me : ME} {ms : MA} {mt : MT} {pos pos' p p2 q apos spos py : Pos} {x y : Str} {scope : Scope} {own : List (Str × Nat)} {st : Stmt}
abbrev DTs (X : Cx) (g : Gc) (Wx : WX) (es : List Expr) (m : MT) : Prop := PTs X es (rd g Wx Eqr m)
theorem dts_nil : DTs X g Wx [] mtYes := ⟨fun pins s σ H Q I ⟨w, τ, c, hs, hh, q⟩ => pts_nil.run pins s σ H Q I (show Q true H from Post.here q hh rfl)⟩
theorem dts_one (h : DT X g Wx e mt) : DTs X g Wx [e] mt := pts_one h
/-- the end of a comprehension -/
theorem lcEnd_ok {mode : Nat} {w1 w2 : Wd} {c1 : Cs} {H1 H2 : Hp} {σ : L2.St} {Q : VK} {D : Addr} {r : R Unit} {c2 : Cs} (hr : r = .ok () c2) (h1 : HRel g w1 c1 H1) (q : Post g w1 σ Wx (UV g) Q (lcEnd mode c1 r)) (e : Ext w1 w2) (hD : w2.ρ c1.length = some D) (h2 : HRel g w2 c2 H2) : Q (.ref D) H2 := by
  subst hr
  unfold lcEnd at q
  dsimp only at q
  split at q
  · exact q w2 (.ref D) H2 e h2 ⟨D, hD, rfl⟩
  · split at q
    · rename_i acc hc
      obtain ⟨a, ea, ⟨vs, hv, rs⟩, _⟩ := h2.cel _ _ hc
      rw [hD] at ea; cases ea
      obtain ⟨h3, x3⟩ := h2.freeze hc rfl hD hv
      have rr : UV g ⟨w2.ρ, upd w2.fz D (.lst vs), w2.ex⟩ (.lst acc) (.ref D) := ⟨D, vs, rfl, upd_same, rs.up x3⟩
      split at q
      · exact q _ _ _ (e.trans x3) h3 rr
      · split at q
        · rename_i k
          have ht : (c2.set c1.length Cell.dead).take c1.length = c1 := by
            rw [List.take_set_of_le (Nat.le_refl _)]; exact k.2
          obtain ⟨h4, x4⟩ := h1.cut (e.trans x3) h3 ht
          exact q _ _ _ x4 h4 (UV.cut (u := .lst acc) (by simpa [noCel] using k.1) rr)
        · exact q.elim
    · exact q.elim
theorem lc_run (mode : Nat) {ix vs : List Nat} {mi : MI} {t : TT1} (hv : ∀ i ∈ ix, i ∈ vs) {w : Wd} {τ : T} {c : Cs} {σ : L2.St} {H : Hp} {Q : VK} (hs : SR g w τ σ) (hh : HRel g w c H)
    (q : Post g w σ Wx (UV g) Q (mLc mode vs mi t mt me τ c)) : tLc (fun σ H Z => rd g Wx (SrcOk g) mi σ H Z) (rdT g ix t) (rd g WF Eqr mt) (rd g WF (UV g) me) vs σ H Q := by
  refine rd_bind q hs hh fun src c1 w1 J H1 e1 h1 so s1' q1 => fun D hD => ?_
  obtain ⟨hc0, ec0⟩ := h1.newC (o := .lst []) (cl := .lst []) hD rfl fun w' e => ⟨[], upd_same, rfl⟩
  generalize hwD : (⟨fun j => if j = c1.length then some D else w1.ρ j, w1.fz, w1.ex⟩ : Wd) = wD at hc0 ec0
  have hρ : wD.ρ c1.length = some D := by subst hwD; exact if_pos rfl
  -- what is wanted of the end
  let F : R Unit → Prop := fun r => ∃ c2, r = .ok () c2 ∧ ∀ w2 H2, Ext wD w2 → HRel g w2 c2 H2 → Q (.ref D) H2
  have hE : ∀ e c, ¬ F (.exc e c) := fun e c ⟨_, z, _⟩ => by cases z
  have hB : ¬ F .bad := fun ⟨_, z, _⟩ => by cases z
  have hq : F (lcGo src t mt me (wipeT τ vs) c1.length ((src (c1 ++ [.lst []])).elim 0 List.length) 0 (c1 ++ [.lst []])) := by
    revert q1
    cases hr : lcGo src t mt me (wipeT τ vs) c1.length ((src (c1 ++ [.lst []])).elim 0 List.length) 0 (c1 ++ [.lst []]) with
    | ok z c2 => exact fun q1 => ⟨c2, rfl, fun w2 H2 e2 h2 => lcEnd_ok rfl h1 q1 (ec0.trans e2) (e2.ρ _ _ hρ) h2⟩
    | exc e c2 => exact fun q1 => q1.elim
    | bad => exact fun q1 => q1.elim
  refine ⟨fun i k H => ∃ w c, Ext wD w ∧ HRel g w c H ∧ F (lcGo src t mt me (wipeT τ vs) c1.length k i c), ⟨_, wD, _, Ext.refl wD, hc0, hq⟩, ?_⟩
  rintro i k H ⟨w, c, ew, hh, q⟩
  have ew1 : Ext w1 w := ec0.trans ew
  have sr : SR g w (wipeT τ vs) (L2.wipe σ vs) := (s1'.up ew1).wipe vs
  have stp : ∀ {xs : List U}, src c = some xs → xs.length ≤ i → F (.ok () c) → J.stop i H ∧ Q (.ref D) H := fun e hl ⟨c2, ec, q⟩ => by
    cases ec
    exact ⟨so.stop w c H i _ ew1 hh e hl, q w H ew hh⟩
  cases k with
  | zero =>
    unfold lcGo at q
    split at q
    · split at q
      · exact .inl (stp (by assumption) (by assumption) q)
      · exact (hB q).elim
    · exact (hB q).elim
  | succ k =>
    unfold lcGo at q
    split at q
    · exact (hB q).elim
    · rename_i xs ex
      split at q
      · rename_i hx
        exact .inl (stp ex (List.getElem?_eq_none_iff.mp hx) q)
      · rename_i u hx
        obtain ⟨hgo, hy⟩ := so.go w c H i u xs ew1 hh ex hx
        refine .inr ⟨hgo, fun H' => ∃ w c, Ext wD w ∧ HRel g w c H' ∧ F (lcGo src t mt me (wipeT τ vs) c1.length k (i + 1) c), fun H' n => ⟨k, Nat.lt_succ_self k, n⟩, fun x H' y => ?_⟩
        obtain ⟨w', e', h', r'⟩ := hy x H' y
        split at q
        · exact (hB q).elim
        · rename_i τ1 et
          refine ⟨w', wipeT τ vs, c, u, τ1, sr.up e', h', r', et, fun σ2 s2 wp => ⟨?_, ?_⟩⟩
          · rw [wp vs hv]
            have ww : ∀ (σ : L2.St) (vs : List Nat), L2.wipe (L2.wipe σ vs) vs = L2.wipe σ vs := by
              intro σ vs
              have : ∀ us : List Nat, (∀ i ∈ us, i ∈ vs) → L2.wipe (L2.wipe σ vs) us = L2.wipe σ vs := by
                intro us
                induction us with
                | nil => intro _; rfl
                | cons j us ih =>
                  intro h
                  show (L2.wipe (L2.wipe σ vs) us).set j none = L2.wipe σ vs
                  rw [ih fun i hi => h i (List.mem_cons_of_mem _ hi)]
                  have hj := h j List.mem_cons_self
                  have : ∀ us : List Nat, j ∈ us → (L2.wipe σ us).set j none = L2.wipe σ us := by
                    intro us
                    induction us with
                    | nil => intro h; cases h
                    | cons l us ih =>
                      intro h
                      show ((L2.wipe σ us).set l none).set j none = (L2.wipe σ us).set l none
                      by_cases hjl : j = l
                      · subst hjl; rw [List.set_set]
                      · rw [List.set_comm _ _ (Ne.symm hjl), ih (by rcases List.mem_cons.mp h with z | z; exact absurd z hjl; exact z)]
                  exact this vs hj
              exact this vs fun _ h => h
            exact ww σ vs
          · refine rd_bindN hE hB q s2 h' fun b c2 w2 b' H2 e2 h2 rb s2' q2 => ?_
            cases (show b = b' from rb)
            cases b with
            | false =>
              rw [if_neg Bool.false_ne_true]
              have q2' : F (lcGo src t mt me (wipeT τ vs) c1.length k (i + 1) c2) := q2
              exact ⟨w2, c2, (ew.trans e').trans e2, h2, q2'⟩
            | true =>
              rw [if_pos rfl]
              have q2' : F ((me τ1 c2).bind fun z c3 => match c3[c1.length]? with
                | some (.lst acc) => if acc.length < 10000 then lcGo src t mt me (wipeT τ vs) c1.length k (i + 1) (c3.set c1.length (.lst (acc ++ [z]))) else .bad
                | _ => .bad) := q2
              refine rd_bindN hE hB q2' s2' h2 fun z c3 w3 zv H3 e3 h3 rz s3 q3 => ?_
              split at q3
              · rename_i acc hacc
                split at q3
                · rename_i hlen
                  have ew3 : Ext wD w3 := ((ew.trans e').trans e2).trans e3
                  obtain ⟨a', ea', ⟨vs', hv', rs'⟩, _⟩ := h3.cel _ _ hacc
                  rw [ew3.ρ _ _ hρ] at ea'; cases ea'
                  refine ⟨vs', hv', by rw [← rs'.length, sizeLine_eq]; omega, w3, _, ew3, h3.setC (cl := .lst (acc ++ [z])) hacc rfl (ew3.ρ _ _ hρ) rfl ⟨_, upd_same, rs'.app (UVs.one rz)⟩, q3⟩
                · exact (hB q3).elim
              · exact (hB q3).elim
theorem de_lc (mode : Nat) (own : List (Str × Nat)) {ix vs : List Nat} {mi : MI} {t : TT1} (ho : own.map (·.2) = vs) (hc : X.calm = true) (hN : X.N.Nodup) (hi : DI X g Wx tg iter mi) (ok : BlkOk X.N X.env.scope scope own) (hv : ∀ i ∈ ix, i ∈ vs)
    (hg : ∀ (s : Shared) (H : Hp) (C : Addr) (cl : List (Str × Addr)) (fp : List Addr), DG (X.blk s H scope (compEnvC scope cl C X.env) fp) g ix tg t)
    (ht : ∀ (s : Shared) (H : Hp) (C : Addr) (cl : List (Str × Addr)) (fp : List Addr), DTs (X.blk s H scope (compEnvC scope cl C X.env) fp) g WF ifs mt)
    (he : ∀ (s : Shared) (H : Hp) (C : Addr) (cl : List (Str × Addr)) (fp : List Addr), DE (X.blk s H scope (compEnvC scope cl C X.env) fp) g WF elt me) (hs : ∀ x, foldedSetIterable iter X.env x = pure x := by intro _; rfl) :
    DE X g Wx (.ListComp elt [⟨tg, iter, ifs, 0⟩] scope pos) (mLc mode vs mi t mt me) :=
  by subst ho; exact pe_imp (pe_lc hc hN hi ok hg ht he hs) fun σ H Q ⟨w, τ, c, hs, hh, q⟩ => lc_run mode hv hs hh q
theorem ds_setLc (i : Nat) (mode : Nat) (own : List (Str × Nat)) {ix vs : List Nat} {mi : MI} {t : TT1} (ho : own.map (·.2) = vs) (hc : X.calm = true) (hN : X.N.Nodup) (hi : DI X g Wx tg iter mi) (ok : BlkOk X.N X.env.scope scope own) (hv : ∀ i ∈ ix, i ∈ vs)
    (hg : ∀ (s : Shared) (H : Hp) (C : Addr) (cl : List (Str × Addr)) (fp : List Addr), DG (X.blk s H scope (compEnvC scope cl C X.env) fp) g ix tg t)
    (ht : ∀ (s : Shared) (H : Hp) (C : Addr) (cl : List (Str × Addr)) (fp : List Addr), DTs (X.blk s H scope (compEnvC scope cl C X.env) fp) g WF ifs mt)
    (he : ∀ (s : Shared) (H : Hp) (C : Addr) (cl : List (Str × Addr)) (fp : List Addr), DE (X.blk s H scope (compEnvC scope cl C X.env) fp) g WF elt me) (hy : X.N[i]? = some y := by rfl) (hyl : X.env.scope.names.lookup y = some .local := by rfl)
    (hsw : swapsWith (.ListComp elt [⟨tg, iter, ifs, 0⟩] scope pos) (some (.Name y py)) spos.line X.env = pure true := by exact sw_true rfl rfl rfl (by decide +kernel)) (hs : ∀ x, foldedSetIterable iter X.env x = pure x := by intro _; rfl) :
    DS X g Wx (.Assign [.Name y py] (.ListComp elt [⟨tg, iter, ifs, 0⟩] scope pos) spos) (msSet i (mLc mode vs mi t mt me)) := by
  subst ho
  refine ps_imp (ps_setLc hc hN hy hyl hsw hi ok hg ht he hs) fun D σ H ⟨w, τ, c, hs, hh, q⟩ => ?_
  obtain ⟨w0, τ0, c0, hs0, hh0, q0⟩ := set_run hs hh q
  exact lc_run mode hv hs0 hh0 q0
end
end Mi
namespace Mi
open PySem PySem.Spec PyProof.Rows L2

/-- a def's promise where no guard runs -/
structure FnG (P : Program) (w : World) (K : PySem.W.Frag) (mg : Str → Option Value) (base : Heap) (k : Nat) (f : Addr) (fd : FuncData) (ps : List Str) (sp : Sp) : Prop where
  len : ∀ vs H Q E, sp vs H Q E → vs.length = ps.length
  go : ∀ {A : Around} {outer : List Env} {s : Shared} {H : Hp} {args : Args} {us : List Value} {vs : List V} {Q : VK} {E : XK},
    Room k A → A.guards = some [] → Env0 P w K mg base A outer s H → BindsTo s fd args (ps.zip us) → Vals vs us → sp vs H Q E →
    codeAny (model P w) A (.call (.ref f) args) (CR (L2.CX P w) outer P w H s Q E) s
theorem FnG.mono {P : Program} {w : World} {K : PySem.W.Frag} {mg : Str → Option Value} {base : Heap} {j k : Nat} {f : Addr} {fd : FuncData} {ps : List Str} {sp : Sp} (F : FnG P w K mg base j f fd ps sp) (h : j ≤ k) : FnG P w K mg base k f fd ps sp :=
  ⟨F.len, fun hr => F.go (hr.mono h)⟩
/-- what a mirror of a def promises -/
def PostF (g : Gc) (w : Wd) (Q : VK) (E : XK) : R U → Prop
  | .ok u c' => ∀ w' v H', Ext w w' → HRel g w' c' H' → UV g w' u v → Q v H'
  | .exc e c' => ∀ w' cls d H', Ext w w' → HRel g w' c' H' → XV g w' H' e cls d → E cls d H'
  | .bad => False
def SpF (g : Gc) (np : Nat) (F : List U → Cs → R U) : Sp := fun vs H Q E => vs.length = np ∧ ∃ w c us, HRel g w c H ∧ UVs g w us vs ∧ PostF g w Q E (F us c)
def startU (n : Nat) (us : List U) : T := us.map some ++ List.replicate (n - us.length) none
open Classical in
/-- a def's end; md: what is handed back is frozen, all cells of its own are forgotten -/
noncomputable def finF (md : Bool) (c : Cs) (r : RS) : R U :=
  let out := fun (u : U) (c' : Cs) => if md = true then (match frz 6 u c' with
      | some (u', c'') => if noCel u' = true ∧ c''.take c.length = c then R.ok u' c else .bad
      | none => .bad) else R.ok u c'
  match r with
  | .ret u c' => out u c'
  | .nx _ c' => out .non c'
  | .exc e _ c' => if md = true then (if noCels e.xs = true ∧ c'.take c.length = c then .exc e c else .bad) else .exc e c'
  | _ => .bad
noncomputable def mkF (md : Bool) (n : Nat) (m : MS) : List U → Cs → R U := fun us c => finF md c (m (startU n us) c)
section
variable {g : Gc} {w : Wd} {c : Cs} {H : Hp}
theorem SR.start {us : List U} {vs : List V} (h : UVs g w us vs) (N : List Str) : SR g w (startU N.length us) (L2.start N vs) := by
  refine ⟨by simp [startU, L2.start, h.length], fun i u q => ?_⟩
  unfold startU at q
  unfold L2.start
  by_cases hi : i < us.length
  · rw [List.getElem?_append_left (by simpa using hi), List.getElem?_map] at q
    cases e : us[i]? with
    | none => rw [e] at q; cases q
    | some u' =>
      rw [e] at q; cases q
      obtain ⟨v, hv, r⟩ := h.get e
      refine ⟨v, ?_, r⟩
      rw [List.getElem?_append_left (by rw [List.length_map, ← h.length]; exact hi), List.getElem?_map, hv]
      rfl
  · rw [List.getElem?_append_right (by simpa using Nat.le_of_not_lt hi), List.getElem?_replicate] at q
    split at q <;> cases q
/-- the end of a def whose result is frozen -/
theorem outF {md : Bool} {u : U} {c' : Cs} {Q : VK} {E : XK} (hh : HRel g w c H)
    (q : PostF g w Q E (open Classical in if md = true then (match frz 6 u c' with
      | some (u', c'') => if noCel u' = true ∧ c''.take c.length = c then R.ok u' c else .bad
      | none => .bad) else R.ok u c')) : ∀ w' v H', Ext w w' → HRel g w' c' H' → UV g w' u v → Q v H' := fun w' v H' e h r => by
  split at q
  · split at q
    · rename_i u' c'' ef
      obtain ⟨w2, x2, h2, r2⟩ := frz_ok 6 w' c' H' u v u' c'' h r ef
      split at q
      · rename_i k
        obtain ⟨h3, x3⟩ := hh.cut (e.trans x2) h2 k.2
        exact q _ v H' x3 h3 (UV.cut k.1 r2)
      · exact q.elim
    · exact q.elim
  · exact q w' v H' e h r
end
section
variable {P : Program} {w : World} {K : PySem.W.Frag} {mg : Str → Option Value} {base : Heap} {g : Gc}
/-- the state of a body, at the start -/
abbrev bodyX (P : Program) (w : World) (K : PySem.W.Frag) (mg : Str → Option Value) (base : Heap) (N : List Str) (qual : Str) (st : Stmt) (f : Addr) (cdv : Value) (A : Around) (outer : List Env) (s : Shared) (H : Hp) (E : XK) : Cx :=
  cxOf (L2.CX P w) P w K mg base N qual (defScope st) f cdv A outer s H E
/-- a def, its defaults left open -/
structure FunD (K : PySem.W.Frag) (x qual : Str) (st : Stmt) (f : Addr) (fd : FuncData) : Prop where
  ex : ∃ (oc : Value) (od : Option Addr) (dV kV doc pm : Value) (an : Option Addr) (cdv ct : Value) (osl : Array (Option Value)),
    fd = PySem.W.fnOf x qual (defArgs st) (defBody st) (defScope st) dV kV doc pm an cdv ct ∧ K.lookup f = some ⟨oc, od, .func fd, osl⟩ ∧ PySem.W.codeIn K cdv qual = true
theorem FunD.of {K : PySem.W.Frag} {x qual : Str} {st : Stmt} {f : Addr} {fd : FuncData} (F : Fun K x qual st f fd) : FunD K x qual st f fd :=
  let ⟨oc, od, kV, doc, pm, an, cdv, ct, osl, h⟩ := F.ex
  ⟨oc, od, .none, kV, doc, pm, an, cdv, ct, osl, h⟩
/-- THE RULE of a def: its body's mirror -/
theorem fnG_ofD {x qual : Str} {st : Stmt} {f : Addr} {fd : FuncData} {N ps : List Str} {k : Nat} (md : Bool) {m : MS} (F : FunD K x qual st f fd) (S : FnScope N ps (defScope st))
    (body : ∀ (cdv : Value) (A : Around) (outer : List Env) (s : Shared) (H : Hp) (E : XK), Room k (bodyX P w K mg base N qual st f cdv A outer s H E).A → (bodyX P w K mg base N qual st f cdv A outer s H E).A.guards = some [] →
      DSs (bodyX P w K mg base N qual st f cdv A outer s H E) g (fun cls d _ H' => E cls d H') (defBody st) m) :
    FnG P w K mg base (k + 1) f fd ps (SpF g ps.length (mkF md N.length m)) where
  len := fun vs H Q E h => h.1
  go := by
    intro A outer s H args us vs Q E hr hgd e0 hb r hsp
    obtain ⟨hl, wd, c, uu, hh, ru, q⟩ := hsp
    obtain ⟨oc, od, dV, kV, doc, pm, an, cdv, ct, osl, rfl, lk, hcd⟩ := F.ex
    have KX : K.In s.heap := e0.mod.kin.keeps fun b o e => (e0.bs b o e).1
    have lim : s.heap.NoLimit := e0.mod.nolimit.keeps fun b o e => (e0.bs b o e).1
    refine codeAny_call_function hr.depth (KX _ _ lk) rfl S.co S.gen rfl (PySem.W.codeRec_of KX hcd) (hb _ _ _ _ ?_)
    refine wpAny_newFunctionEnv_cells S.kind (fun nv hy => ?_) fun env he s1 x => ?_
    · rcases S.par nv.1 (List.of_mem_zip (show (nv.1, nv.2) ∈ ps.zip us from hy)).1 with z | z
      · exact .inl z
      · exact .inr ⟨z, PySem.W.cellsFrom_some _ _ _ (.inl z)⟩
    subst he
    refine ⟨lim.keeps x.toInCall.keep, codeAny_func ?_⟩
    have I : Inv (bodyX P w K mg base N qual st f cdv A outer s H E) [] (L2.start N vs) H s1 := inv_start S hr.hd e0 hl r x
    have wk : rdS g (fun cls d _ H' => E cls d H') m { nx := fun _ H' => Q .non H', rt := Q } (L2.start N vs) H := by
      refine ⟨wd, startU N.length uu, c, SR.start ru N, hh, ?_⟩
      have q' : PostF g wd Q E (finF md c (m (startU N.length uu) c)) := q
      unfold finF at q'
      revert q'
      cases m (startU N.length uu) c with
      | nx τ' c' => exact fun q' w' σ' H' e h _ => outF hh q' w' .non H' e h rfl
      | ret u c' => exact fun q' => outF hh q'
      | bk τ' c' => exact fun q' => q'.elim
      | ct τ' c' => exact fun q' => q'.elim
      | exc e τ' c' =>
        intro q' w' σ' cls d H' ex h _ xv
        dsimp only at q'
        split at q'
        · split at q'
          · rename_i kk
            obtain ⟨h3, x3⟩ := hh.cut ex h kk.2
            refine q' _ cls d H' x3 h3 ⟨xv.1, ?_⟩
            rcases xv.2 with z | ⟨da, vs', e1, e2, e3, e4⟩
            · exact .inl z
            · exact .inr ⟨da, vs', e1, e2, e3, UVs.cut kk.1 e4⟩
          · exact q'.elim
        · exact q' w' cls d H' ex h xv
      | bad => exact fun q' => q'.elim
    have hb2 := (body cdv A outer s H E (hr.deeper _) hgd).run [] s1 (L2.start N vs) H _ I wk
    have fin : ∀ {σ' : L2.St} {H' : Hp} {v : V} {u : Value} {s' : Shared}, Inv (bodyX P w K mg base N qual st f cdv A outer s H E) [] σ' H' s' → RelV v u → Q v H' → CE outer P w H s Q u s' :=
      fun {σ' H' v u s'} J rv q => ⟨v, H', J.os, J.bare, J.base, J.hok, rv, q⟩
    refine wpAny_mono hb2 (fun fl s' hs => ?_) fun e s' hs => hs
    cases fl with
    | ret u => obtain ⟨v, σ', H', J, rv, q⟩ := hs; exact fin J rv q
    | next => obtain ⟨σ', H', J, q⟩ := hs; exact fin (v := V.non) (u := Value.none) J rfl q
    | brk => obtain ⟨_, _, _, q⟩ := hs; exact q.elim
    | cont => obtain ⟨_, _, _, q⟩ := hs; exact q.elim
theorem fnG_of {x qual : Str} {st : Stmt} {f : Addr} {fd : FuncData} {N ps : List Str} {k : Nat} (md : Bool) {m : MS} (F : Fun K x qual st f fd) (S : FnScope N ps (defScope st))
    (body : ∀ (cdv : Value) (A : Around) (outer : List Env) (s : Shared) (H : Hp) (E : XK), Room k (bodyX P w K mg base N qual st f cdv A outer s H E).A → (bodyX P w K mg base N qual st f cdv A outer s H E).A.guards = some [] →
      DSs (bodyX P w K mg base N qual st f cdv A outer s H E) g (fun cls d _ H' => E cls d H') (defBody st) m) :
    FnG P w K mg base (k + 1) f fd ps (SpF g ps.length (mkF md N.length m)) := fnG_ofD md (.of F) S body
/-- every argument is given: the defaults are not looked at -/
theorem FunD.binds {x qual : Str} {st : Stmt} {f : Addr} {fd : FuncData} {ps : List Str} (F : FunD K x qual st f fd)
    (h : ∀ (dV kV doc pm : Value) (an : Option Addr) (cdv ct : Value) (us : List Value), us.length = ps.length → bindArgs (PySem.W.fnOf x qual (defArgs st) (defBody st) (defScope st) dV kV doc pm an cdv ct) ⟨us, []⟩ = pure (ps.zip us)) : Binds K fd ps [] := by
  obtain ⟨oc, od, dV, kV, doc, pm, an, cdv, ct, osl, rfl, lk, hcd⟩ := F.ex
  exact .all (h dV kV doc pm an cdv ct)
end

/-! ### calls -/
section
variable {X : Cx} {g : Gc} {Wx : WX} {k np : Nat} {f : Addr} {fd : FuncData} {ps : List Str} {Fm : List U → Cs → R U} {x : Str} {p pos : Pos} {e : Expr} {es : List Expr} {ms : MA} {ds : List Value} {dvs : List V} {dus : List U} {kws : List Keyword}
/-- the callee runs -/
theorem runG {pins : List (Addr × Obj)} {σ : L2.St} {H : Hp} {s : Shared} {Q : VK} {us bs : List Value} {kw : List (Str × Value)} {vs : List V} {w : Wd} {c : Cs} {uu : List U}
    (F : FnG X.prog X.w X.K X.mg X.base k f fd ps (SpF g np Fm)) (hr : Room k X.A) (hgd : X.A.guards = some []) (tk : Takes X Wx) (I : Inv X pins σ H s) (hb : bs.length = ps.length → BindsTo s fd ⟨us, kw⟩ (ps.zip bs)) (r : Vals vs bs)
    (hn : vs.length = np) (hh : HRel g w c H) (ru : UVs g w uu vs) (q : Post g w σ Wx (UV g) Q (Fm uu c)) : wpAny (model X.prog X.w) X.A (call (.ref f) us kw) (EP X pins σ Q) X.xe s := by
  have hsp : SpF g np Fm vs H Q (fun cls d H' => Wx cls d σ H') := by
    refine ⟨hn, w, c, uu, hh, ru, ?_⟩
    revert q
    cases Fm uu c with
    | ok u c' => exact fun q => q
    | exc e c' => exact fun q => q
    | bad => exact fun q => q
  have hl : bs.length = ps.length := by rw [← r.length]; exact F.len _ _ _ _ hsp
  refine wpAny_call (codeAny_mono (F.go hr hgd I.env0 (hb hl) r hsp) fun res s' hq => ?_)
  cases res with
  | error e => exact tk _ _ (XE.of_call I (fun cls d H' h => h) hq)
  | ok fl =>
    cases fl with
    | ret u => exact I.after hq
    | next => exact hq.elim
    | brk => exact hq.elim
    | cont => exact hq.elim
def mFn (Fm : List U → Cs → R U) (dus : List U) (ms : MA) : ME := fun τ c => (ms τ c).bind fun us c1 => Fm (us ++ dus) c1
theorem Post.len {w : Wd} {σ : L2.St} {Q : VK} {r : R U} (h : Post g w σ Wx (UV g) Q r) : True := trivial
theorem de_call (F : FnG X.prog X.w X.K X.mg X.base k f fd ps (SpF g np Fm)) (hr : Room k X.A) (hgd : X.A.guards = some []) (tk : Takes X Wx) (hm : X.mg x = some (.ref f)) (hk : PySem.W.keepIn X.K (.ref f) = true) (hb : Binds X.K fd ps ds) (hd : Vals dvs ds) (hdu : ∀ w, UVs g w dus dvs)
    (ha : DA X g Wx (e :: es) ms) (hn : ∀ us τ c c', ms τ c = .ok us c' → (us ++ dus).length = np) (hg : Gl X x := by rfl) (hdb : (x == ("__debug__" : Str)) = false := by decide) (he : starEach (e :: es) X.env = (false, eval e X.env) :: starEach es X.env := by rfl)
    (hpl : (backTo pos (starEach es X.env)).any (·.1) = false := by rfl) : DE X g Wx (.Call (.Name x p) (e :: es) [] pos) (mFn Fm dus ms) := by
  refine ⟨fun pins s σ H Q I ⟨w, τ, c, hs, hh, q⟩ => ?_⟩
  refine wpAny_Call_Name_kw (ld_glob I hg hm ?_ hdb)
  have key : rd g Wx (UVs g) ms σ H fun vs H1 => ∃ w1 c1 us, HRel g w1 c1 H1 ∧ UVs g w1 us vs ∧ (us ++ dus).length = np ∧ Post g w1 σ Wx (UV g) Q (Fm (us ++ dus) c1) := by
    refine ⟨w, τ, c, hs, hh, ?_⟩
    have q' : Post g w σ Wx (UV g) Q ((ms τ c).bind fun us c1 => Fm (us ++ dus) c1) := q
    revert q'
    cases hms : ms τ c with
    | ok us c1 => exact fun q' w1 vs H1 e1 h1 r1 => ⟨w1, c1, us, h1, r1, hn us τ c c1 hms, Post.up e1 q'⟩
    | exc e c1 => exact fun q' => q'
    | bad => exact fun q' => q'
  refine PySem.W.callWith_K (h₀ := X.base) I.ok.mod.kin hk (thn (ha.run pos pins s σ H _ I key) fun us s1 ⟨vs, H1, I1, r, w1, c1, uu, h1, ru, hl, q1⟩ => ⟨I1.kIn, ?_⟩) he hpl
  exact runG F hr hgd tk I1 (hb s1 us I1.kIn) (r.append hd) (by rw [← hl, List.length_append, List.length_append, ← ru.length, ← (hdu w1).length]) h1 (ru.app (hdu w1)) q1
abbrev DK (X : Cx) (g : Gc) (Wx : WX) (kws : List Keyword) (m : MA) : Prop := PK X kws (rd g Wx (UVs g) m)
theorem pk_imp {t t' : TA} (h : PK X kws t) (i : ∀ σ H Q, t' σ H Q → t σ H Q) : PK X kws t' := ⟨fun pos pins s σ H Q I q => h.run pos pins s σ H Q I (i _ _ _ q)⟩
theorem dk_nil : DK X g Wx [] maNil := pk_imp pk_nil fun σ H Q ⟨w, τ, c, hs, hh, q⟩ => Post.here q hh rfl
theorem dk_cons {nm : Option Str} {kpos : Pos} {m : ME} (ha : DE X g Wx e m) (hr : DK X g Wx kws ms) : DK X g Wx (⟨nm, e, kpos⟩ :: kws) (maCons m ms) :=
  pk_imp (pk_cons ha hr) fun σ H Q ⟨w, τ, c, hs, hh, q⟩ => rd_bind q hs hh fun u c1 w1 x H1 e1 h1 r1 s1 q1 => rd_bind q1 s1 h1 fun us c2 w2 xs H2 e2 h2 r2 s2 q2 => Post.here q2 h2 ⟨x, xs, rfl, r1.up e2, r2⟩
/-- items by their places -/
def sel {α : Type} (pm : List Nat) (xs : List α) : List α := pm.filterMap fun i => xs[i]?
theorem Vals.sel {vs : List V} {us : List Value} (r : Vals vs us) : ∀ pm : List Nat, Vals (sel pm vs) (sel pm us)
  | [] => .nil
  | i :: pm => by
    unfold Mi.sel
    rw [List.filterMap_cons, List.filterMap_cons]
    cases e : vs[i]? with
    | none => rw [r.none_of e]; exact Vals.sel r pm
    | some v =>
      obtain ⟨u, e2, q⟩ := r.get e
      rw [e2]
      exact .cons q (Vals.sel r pm)
theorem UVs.none_of {w : Wd} {us : List U} {vs : List V} {i : Nat} (r : UVs g w us vs) (e : us[i]? = none) : vs[i]? = none := by
  rw [List.getElem?_eq_none_iff] at e ⊢
  rw [← r.length]; exact e
theorem UVs.sel {w : Wd} {us : List U} {vs : List V} (r : UVs g w us vs) : ∀ pm : List Nat, UVs g w (Mi.sel pm us) (Mi.sel pm vs)
  | [] => rfl
  | i :: pm => by
    unfold Mi.sel
    rw [List.filterMap_cons, List.filterMap_cons]
    cases e : us[i]? with
    | none => rw [r.none_of e]; exact UVs.sel r pm
    | some v =>
      obtain ⟨u, e2, q⟩ := r.get e
      rw [e2]
      exact ⟨u, _, rfl, q, UVs.sel r pm⟩
/-- how a call by names alone binds -/
def BindsK (K : PySem.W.Frag) (fd : FuncData) (ps ks : List Str) (pm : List Nat) : Prop := ∀ (s : Shared) (ws : List Value), K.In s.heap → (sel pm ws).length = ps.length → ws.length = ks.length → BindsTo s fd ⟨[], ks.zip ws⟩ (ps.zip (sel pm ws))
def mFnK (Fm : List U → Cs → R U) (pm : List Nat) (ms : MA) : ME := fun τ c => (ms τ c).bind fun us c1 => Fm (sel pm us) c1
/-- f(k = e, ..) -/
theorem de_callK {ks : List Str} {pm : List Nat} (F : FnG X.prog X.w X.K X.mg X.base k f fd ps (SpF g np Fm)) (hr : Room k X.A) (hgd : X.A.guards = some []) (tk : Takes X Wx) (hm : X.mg x = some (.ref f)) (hk : PySem.W.keepIn X.K (.ref f) = true) (hb : BindsK X.K fd ps ks pm)
    (ha : DK X g Wx kws ms) (hn : ∀ us τ c c', ms τ c = .ok us c' → us.length = ks.length ∧ (sel pm us).length = np) (hg : Gl X x := by rfl) (hdb : (x == ("__debug__" : Str)) = false := by decide)
    (hall : (backToKw pos (keywordEach kws X.env)).all (·.1.isSome) = true := by rfl) (hks : (backToKw pos (keywordEach kws X.env)).filterMap (·.1) = ks := by rfl)
    (hpl : ((backTo pos (starEach [] X.env)).any (·.1) || (backToKw pos (keywordEach kws X.env)).any (·.1.isNone)) = false := by rfl) : DE X g Wx (.Call (.Name x p) [] kws pos) (mFnK Fm pm ms) := by
  refine ⟨fun pins s σ H Q I ⟨w, τ, c, hs, hh, q⟩ => ?_⟩
  refine wpAny_Call_Name_kw (ld_glob I hg hm ?_ hdb)
  have key : rd g Wx (UVs g) ms σ H fun vs H1 => ∃ w1 c1 us, HRel g w1 c1 H1 ∧ UVs g w1 us vs ∧ us.length = ks.length ∧ (sel pm us).length = np ∧ Post g w1 σ Wx (UV g) Q (Fm (sel pm us) c1) := by
    refine ⟨w, τ, c, hs, hh, ?_⟩
    have q' : Post g w σ Wx (UV g) Q ((ms τ c).bind fun us c1 => Fm (sel pm us) c1) := q
    revert q'
    cases hms : ms τ c with
    | ok us c1 => exact fun q' w1 vs H1 e1 h1 r1 => ⟨w1, c1, us, h1, r1, (hn us τ c c1 hms).1, (hn us τ c c1 hms).2, Post.up e1 q'⟩
    | exc e c1 => exact fun q' => q'
    | bad => exact fun q' => q'
  refine PySem.W.callWith_KW0 (h₀ := X.base) I.ok.mod.kin hk hall ?_ hpl
  refine thn (ha.run pos pins s σ H _ I key) fun ws s2 ⟨zs, H2, I2, rz, w1, c1, uu, h1, ru, l1, l2, q1⟩ => ⟨I2.kIn, ?_⟩
  rw [hks]
  exact runG F hr hgd tk I2 (fun hl => hb s2 ws I2.kIn hl (by rw [← rz.length, ← ru.length]; exact l1)) (Vals.sel rz pm) (by rw [← l2, (ru.sel pm).length]) h1 (ru.sel pm) q1
end

/-! ### repr -/
section
variable {X : Cx} {g : Gc}
def rRepr (K : PySem.W.Frag) : List V → Hp → VK → Prop := fun xs H Q => ∃ x d, xs = [x] ∧ Dp K H x d ∧ d.showable = true ∧ d.hasDict = false ∧ d.depth ≤ 40 ∧ d.shown.length ≤ sizeLine ∧ Q (.str d.shown) H
theorem call_repr (hgd : X.A.guards = some []) (hu : X.A.units + 64 < cLine) : CallR X (.builtin "repr") (rRepr X.K) := by
  intro pins s σ H xs us Q I r h
  obtain ⟨x, d, rfl, hd, hs, hD, hp, hz, q⟩ := h
  obtain ⟨u, rfl, ru⟩ := vals1 r
  obtain ⟨as, rr⟩ := Dp.reads I d x u hd ru
  cases hd with
  | non => cases (show u = _ from ru); exact PySem.P.repr_of_none ⟨.str _, H, I.tok _, ⟨_, rfl⟩, q⟩
  | bl b => cases (show u = _ from ru); exact PySem.P.repr_of_bool ⟨.str _, H, I.tok _, ⟨_, rfl⟩, q⟩
  | int i =>
    obtain ⟨t, rfl⟩ := ru
    exact PySem.P.repr_of_int (by simpa [PyData.showable] using hs) ⟨.str _, H, I.tok _, ⟨_, rfl⟩, q⟩
  | str y =>
    obtain ⟨t, rfl⟩ := ru
    exact PySem.P.repr_of_str ⟨.str _, H, I.tok _, ⟨_, rfl⟩, q⟩ (by simpa [PyData.shown] using hz)
  | lst h1 h2 =>
    cases (show u = _ from ru)
    exact repr_of_reads' rr hs (fun z => by rw [hD] at z; cases z) hgd (by omega) (fun b o e => e) (fun h' t tk keep => ⟨.str _, H, I.kept keep, ⟨t, rfl⟩, q⟩) hz
  | tup h1 h2 =>
    cases (show u = _ from ru)
    exact repr_of_reads' rr hs (fun z => by rw [hD] at z; cases z) hgd (by omega) (fun b o e => e) (fun h' t tk keep => ⟨.str _, H, I.kept keep, ⟨t, rfl⟩, q⟩) hz
def fRepr (us : List U) (c : Cs) : Option (U × Cs) := match us with
  | [u] => (pd 6 c u).bind fun d => if d.showable = true ∧ d.hasDict = false ∧ d.shown.length ≤ 100000 then some (.str d.shown, c) else none
  | _ => none
theorem repr_u : CallU g fRepr (rRepr g.K) := by
  intro w c H us vs z c' Q hh r e h
  unfold fRepr at e
  split at e
  · rename_i u
    obtain ⟨v, rfl, rv⟩ := uvs1 r
    cases e1 : pd 6 c u with
    | none => rw [e1] at e; cases e
    | some d =>
      rw [e1] at e
      have e : (if d.showable = true ∧ d.hasDict = false ∧ d.shown.length ≤ 100000 then some (U.str d.shown, c) else none) = some (z, c') := e
      split at e
      · rename_i k
        cases e
        exact ⟨v, d, rfl, pd_ok hh 6 rv e1, k.1, k.2.1, Nat.le_trans (pd_depth 6 e1) (by decide), by rw [sizeLine_eq]; omega, Then.here h hh rfl⟩
      · cases e
  · cases e
end
end Mi
namespace Mi
open PySem PySem.Spec PyProof.Rows L2

/-- nothing stands in the abstract heap but the script -/
def Bare (K : PySem.W.Frag) (a : Addr) (H : Hp) : Prop := ∀ b u, H b = some u → b = a ∧ K.lookup a = none ∧ ∃ o xs, u = .frz o (.lst xs)
section
variable {P : Program} {w : World} {K : PySem.W.Frag} {mg mb : Str → Option Value} {k : Nat} {fa a : Addr} {fd : FuncData} {x : Str} {sp : Sp} {st : Shared} {vs : List Value} {ns : List Int}
theorem Bare.none_of {H : Hp} (B : Bare K a H) (hobj : st.heap.get? a = some { cls := .type "list", data := .seq vs.toArray }) {b : Addr} {o : Obj} (e : st.heap.get? b = some o) (hd : ∀ n, o.data ≠ .seq vs.toArray n) : H b = none := by
  cases q : H b with
  | none => rfl
  | some u =>
    obtain ⟨rfl, _⟩ := B b u q
    rw [hobj] at e
    cases e
    exact absurd rfl (hd _)
theorem Bare.nsp {H : Hp} (B : Bare K a H) (hobj : st.heap.get? a = some { cls := .type "list", data := .seq vs.toArray }) {b : Addr} {m : Str → Option Value} (h : st.heap.Ns b m) : (hidT st.heap H).Ns b m := by
  obtain ⟨o, es, ep, e, hd, rest⟩ := h
  exact ⟨o, es, ep, hidT_get e (B.none_of hobj e fun n z => by rw [hd] at z; cases z), hd, rest⟩
theorem law_go (KX : K.In st.heap) (hns : st.heap.Ns mainGlobals mg) (hb : st.heap.Ns builtinsNs mb) (hbb : ∀ y : Str, y ≠ "__name__" → mb y = bootBuiltins y) (hlim : st.heap.NoLimit) (hg : st.gens = #[])
    (hobj : st.heap.get? a = some { cls := .type "list", data := .seq vs.toArray }) (hr : Room k callerA) (hgd : callerA.guards = some [])
    (F : ∀ base : Heap, K.In base → base.Ns mainGlobals mg → FnG P w K mg base k fa fd [x] sp) (hbind : ∀ (s : Shared) (u : Value), BindsTo s fd ⟨[u], []⟩ [(x, u)])
    {H : Hp} (B : Bare K a H) (hok : HOk P w H st.heap) (hsp : sp [.ref a] H (fun v _ => v = .bl true) fun _ _ _ => False) :
    codeAny (model P w) callerA (.call (.ref fa) ⟨[.ref a], []⟩) (fun r s' => r = .ok (.ret (.bool true)) ∧ OldK st.heap s'.heap ∧ s'.os = st.os ∧ AllBare s'.gens) st := by
  have hKb : K.In (hidT st.heap H) := fun b o e => hidT_get (KX b o e) (by
    cases q : H b with
    | none => rfl
    | some u =>
      obtain ⟨rfl, z, _⟩ := B b u q
      rw [z] at e; cases e)
  have hM : Mod K mg (hidT st.heap H) := by
    refine ⟨hKb, B.nsp hobj hns, ⟨mb, B.nsp hobj hb, hbb⟩, ?_⟩
    obtain ⟨mc, h1, h2⟩ := hlim
    exact ⟨mc, B.nsp hobj h1, h2⟩
  have e0 : Env0 P w K mg (hidT st.heap H) callerA [] st H :=
    { frames := rfl, mod := hM, bs := fun b o e => of_hidT e, bsz := Nat.le_of_eq (hidT_size _ _), funs := trivial, frf := fun b z => (nomatch z), hok := hok, bare := .of_eq hg }
  refine codeAny_mono ((F _ hKb (B.nsp hobj hns)).go (us := [.ref a]) (vs := [.ref a]) hr hgd e0 (hbind st (.ref a)) (.cons rfl .nil) hsp) fun r s' h => ?_
  cases r with
  | error e =>
    obtain ⟨_, _, _, _, _, _, _, _, _, _, _, _, z⟩ := h
    exact z.elim
  | ok fl =>
    cases fl with
    | next => exact False.elim h
    | brk => exact False.elim h
    | cont => exact False.elim h
    | ret u =>
      obtain ⟨v, H', os, bare, un, hok', r', q'⟩ := h
      cases (show v = .bl true from q')
      cases (show u = Value.bool true from r')
      refine ⟨rfl, OldK.of_keep fun b o e => ?_, os, bare⟩
      cases q : H b with
      | none => exact un.keep b o e q (fun z => nomatch z) (fun z => nomatch z)
      | some u =>
        obtain ⟨_, _, ob, xs, rfl⟩ := B b u q
        have e1 := (hok b _ q).1
        have e2 := (hok' b _ (un.frzs b ob _ q)).1
        rw [e] at e1; cases e1
        exact e2
end
theorem callerA_guards : callerA.guards = some [] := by first | rfl | decide
/-- what the script is as a tree -/
def scr (ns : List Int) : List U := [.slst (ns.map .int)]
theorem SpF.law {g : Gc} {F : List U → Cs → R U} {H : Hp} {a : Addr} {ns : List Int} (hx : g.exa = none) (hS : SqL g.K H a (ns.map V.int)) (h : ∃ c', F (scr ns) [] = .ok (.bl true) c') : SpF g 1 F [.ref a] H (fun v _ => v = .bl true) fun _ _ _ => False := by
  refine ⟨rfl, ⟨fun _ => none, H, none⟩, [], scr ns, ⟨fun _ _ e => e, fun i cl e => (by simp at e), fun _ _ => rfl, fun i j b e => (by cases e), fun q hq => (by rw [hx] at hq; cases hq), fun _ => rfl⟩, ⟨.ref a, [], rfl, ⟨a, _, rfl, hS, UVs.ints ns⟩, rfl⟩, ?_⟩
  obtain ⟨c', e⟩ := h
  rw [e]
  exact fun w' v H' _ _ r => r
/-- THE END: a law whose mirror says True -/
theorem walkG {l : PySem.W.OpenLaw} {n k : Nat} {q : Program} {loose : List Str} {XP : (Str → Option Value) → Heap → Prop} {YP : World → Heap → Prop} {d : DefRec} {K : Params → PySem.W.Frag} {x : Str} {Fl : List U → Cs → R U}
    (hn : l.most = some n) (hn2 : n ≤ sizeLine) (hdf : d.params.defaults = []) (hr : Room k callerA) (hY : ∀ (w : World) (h : Heap), YP w h → (K w.params).In h)
    (F : ∀ (w : World) (mg : Str → Option Value) (fa : Addr) (h : Heap), (K w.params).In h → h.Ns mainGlobals mg → mg d.name = some (.ref fa) →
      ∃ fd : FuncData, (∀ (s : Shared) (u : Value), BindsTo s fd ⟨[u], []⟩ [(x, u)]) ∧ ∃ g : Gc, g.K = K w.params ∧ g.exa = none ∧
        ∀ base : Heap, (K w.params).In base → base.Ns mainGlobals mg → FnG l.prog w (K w.params) mg base k fa fd [x] (SpF g 1 Fl))
    (hF : ∀ ns : List Int, ns.length ≤ n → ∃ c', Fl (scr ns) [] = .ok (.bl true) c') :
    PySem.W.WalkO q loose XP YP l.row.toRowW d [] (fun f vs => PySem.call f vs) := by
  refine Att.attach_call hn hdf fun w s₀ s₁ mg mb fa o pm cd doc a vs ns G Y ho hd hcd hmg hobj hints hlen hg => ?_
  have KX := hY w _ Y
  obtain ⟨fd, hb, g, hgK, hgx, hF'⟩ := F w mg fa _ KX G.T.g hmg
  have rv := vals_ints hints
  have hl : (ns.map V.int).length ≤ sizeLine := by rw [List.length_map]; exact Nat.le_trans hlen hn2
  cases hk : (K w.params).lookup a with
  | some ob =>
    have e := KX a ob hk
    rw [hobj] at e
    cases e
    have hS : SqL (K w.params) (fun _ => none) a (ns.map V.int) := .inr ⟨_, vs.toArray, _, hk, rfl, rfl, rfl, by
      rw [List.size_toArray, ← rv.length]; exact hl, by simpa using rv⟩
    exact law_go KX G.T.g G.T.b G.T.builtins G.T.nolimit hg hobj hr callerA_guards hF' hb (H := fun _ => none) (fun b u z => by cases z) (fun b u z => by cases z) (SpF.law hgx (by rw [hgK]; exact hS) (hF ns hlen))
  | none =>
    let H : Hp := fun b => if b = a then some (.frz { cls := .type "list", data := .seq vs.toArray } (.lst (ns.map V.int))) else none
    have hH : H a = some (.frz { cls := .type "list", data := .seq vs.toArray } (.lst (ns.map V.int))) := if_pos rfl
    have only : ∀ b u, H b = some u → b = a ∧ u = .frz { cls := .type "list", data := .seq vs.toArray } (.lst (ns.map V.int)) := fun b u z => by
      by_cases hb : b = a
      · subst hb; rw [hH] at z; exact ⟨rfl, (Option.some.inj z).symm⟩
      · have z' : (if b = a then some (HO.frz { cls := .type "list", data := .seq vs.toArray } (.lst (ns.map V.int))) else none) = some u := z
        rw [if_neg hb] at z'; cases z'
    refine law_go KX G.T.g G.T.b G.T.builtins G.T.nolimit hg hobj hr callerA_guards hF' hb (H := H) (fun b u z => ?_) (fun b u z => ?_) (SpF.law hgx (by rw [hgK]; exact .inl (.inr ⟨_, hH⟩)) (hF ns hlen))
    · obtain ⟨e1, e2⟩ := only b u z
      exact ⟨e1, hk, _, _, e2⟩
    · obtain ⟨e1, e2⟩ := only b u z
      subst e1 e2
      exact ⟨hobj, hl, vs, _, rv, hobj⟩
end Mi
namespace Mi
open PySem PySem.Spec PyProof.Rows L2

/-- a def of the text with all that a call asks; kwl: the calls by names -/
structure Own (P : Program) (w : World) (K : PySem.W.Frag) (mg : Str → Option Value) (base : Heap) (g : Gc) (k : Nat) (x : Str) (ps : List Str) (kwl : List (List Str × List Nat)) (Fm : List U → Cs → R U) : Prop where
  ex : ∃ (f : Addr) (fd : FuncData), FnG P w K mg base k f fd ps (SpF g ps.length Fm) ∧ mg x = some (.ref f) ∧ PySem.W.keepIn K (.ref f) = true ∧ Binds K fd ps [] ∧ ∀ q ∈ kwl, BindsK K fd ps q.1 q.2
theorem ma_len0 : ∀ us τ c c', maNil τ c = .ok us c' → us.length = 0 := fun us τ c c' h => by
  cases h; rfl
theorem ma_lenS {m : ME} {ms : MA} {n : Nat} (h : ∀ us τ c c', ms τ c = .ok us c' → us.length = n) : ∀ us τ c c', maCons m ms τ c = .ok us c' → us.length = n + 1 := fun us τ c c' e => by
  have e' : ((m τ c).bind fun u c1 => (ms τ c1).bind fun us c2 => R.ok (u :: us) c2) = .ok us c' := e
  revert e'
  cases m τ c with
  | ok u c1 =>
    simp only [bind_ok]
    cases e2 : ms τ c1 with
    | ok vs c2 =>
      simp only [bind_ok]
      intro e'
      cases e'
      rw [List.length_cons, h vs τ c1 c' e2]
    | exc e c2 => exact fun e' => by cases e'
    | bad => exact fun e' => by cases e'
  | exc e c1 => exact fun e' => by cases e'
  | bad => exact fun e' => by cases e'
theorem mB_post {g : Gc} {w : Wd} {σ : L2.St} {Wx : WX} {Q : Bool → Hp → Prop} {m : ME} {τ : T} {c : Cs} (h : Post g w σ Wx Eqr Q (mB m τ c)) : Post g w σ Wx (UV g) (fun x H' => ∃ k, x = .bl k ∧ Q k H') (m τ c) := by
  unfold mB at h
  revert h
  cases m τ c with
  | ok u c1 =>
    cases u with
    | bl b => exact fun h w' v H' e hh r => ⟨b, r, h w' b H' e hh rfl⟩
    | _ => exact fun h => h.elim
  | exc e c1 => exact fun h => h
  | bad => exact fun h => h
section
variable {X : Cx} {g : Gc} {Wx : WX} {k j : Nat} {ps ks : List Str} {pm : List Nat} {Fm : List U → Cs → R U} {x : Str} {p pos : Pos} {e a b f : Expr} {es : List Expr} {ms : MA} {kwl : List (List Str × List Nat)} {kws : List Keyword} {m n k1 : ME}
theorem own_call (O : Own X.prog X.w X.K X.mg X.base g k x ps kwl Fm) (hr : Room j X.A) (hkj : k ≤ j) (hgd : X.A.guards = some []) (tk : Takes X Wx)
    (ha : DA X g Wx (e :: es) ms) (hn : ∀ us τ c c', ms τ c = .ok us c' → us.length = ps.length) (hg : Gl X x := by rfl) (hdb : (x == ("__debug__" : Str)) = false := by decide) (he : starEach (e :: es) X.env = (false, eval e X.env) :: starEach es X.env := by rfl)
    (hpl : (backTo pos (starEach es X.env)).any (·.1) = false := by rfl) : DE X g Wx (.Call (.Name x p) (e :: es) [] pos) (mFn Fm [] ms) := by
  obtain ⟨f, fd, F, hm, hk, hb, _⟩ := O.ex
  exact de_call (dus := []) F (hr.mono hkj) hgd tk hm hk hb .nil (fun _ => rfl) ha (fun us τ c c' h => by rw [List.append_nil]; exact hn us τ c c' h) hg hdb he hpl
theorem own_callK (ks : List Str) (pm : List Nat) (O : Own X.prog X.w X.K X.mg X.base g k x ps kwl Fm) (hq : (ks, pm) ∈ kwl) (hr : Room j X.A) (hkj : k ≤ j) (hgd : X.A.guards = some []) (tk : Takes X Wx)
    (ha : DK X g Wx kws ms) (hn : ∀ us τ c c', ms τ c = .ok us c' → us.length = ks.length) (hp : ∀ us : List U, us.length = ks.length → (sel pm us).length = ps.length) (hg : Gl X x := by rfl) (hdb : (x == ("__debug__" : Str)) = false := by decide)
    (hall : (backToKw pos (keywordEach kws X.env)).all (·.1.isSome) = true := by rfl) (hks : (backToKw pos (keywordEach kws X.env)).filterMap (·.1) = ks := by rfl)
    (hpl : ((backTo pos (starEach [] X.env)).any (·.1) || (backToKw pos (keywordEach kws X.env)).any (·.1.isNone)) = false := by rfl) : DE X g Wx (.Call (.Name x p) [] kws pos) (mFnK Fm pm ms) := by
  obtain ⟨f, fd, F, hm, hk, _, hb⟩ := O.ex
  exact de_callK F (hr.mono hkj) hgd tk hm hk (hb _ hq) ha (fun us τ c c' h => ⟨hn us τ c c' h, hp us (hn us τ c c' h)⟩) hg hdb hall hks hpl
theorem op_eqA (hu : X.A.units + 64 < cLine) : OpR X (compareOp .Eq) (rEqA X.K) := op_eq.or (op_eqD hu)
theorem op_neA (hu : X.A.units + 64 < cLine) : OpR X (compareOp .NotEq) (rNeA X.K) := op_ne.or (op_neD hu)
abbrev fLt := fCmp fun i j => decide (i < j)
abbrev fLe := fCmp fun i j => decide (i ≤ j)
abbrev fGt := fCmp fun i j => decide (j < i)
abbrev fGe := fCmp fun i j => decide (j ≤ i)
/-- 1 <= n <= 8 as a test -/
theorem dt_chain {op op' : CmpOp} {f1 f' : U → U → Cs → Option (U × Cs)} {r r' : R2} (ho : OpR X (compareOp op) r) (ho' : OpR X (compareOp op') r') (hf : OpU g f1 r) (hf' : OpU g f' r') (ha : DE X g Wx a m) (hb : DE X g Wx b n) (hc : DE X g Wx e k1)
    (h1 : lastMarks [op, op'] [b, e] = false := by rfl) : DT X g Wx (.Compare a [op, op'] [b, e] pos) (mB (mChain f1 f' m n k1)) := by
  exact pt_imp (pt_chain ho ho' ha hb hc h1) fun σ H Q ⟨w, τ, c, hs, hh, q⟩ => chain_run hf hf' hs hh (mB_post q)
end
end Mi
namespace Mi
open PySem PySem.Spec PyProof.Rows L2

def keyU : U → Option Key
  | .int i => some (.inl i)
  | .str s => some (.inr s)
  | _ => none
def keysU : List (U × U) → Option (List Key)
  | [] => some []
  | p :: ps => (keyU p.1).bind fun k => (keysU ps).map (k :: ·)
theorem keyU_ok {g : Gc} {w : Wd} {u : U} {v : V} {k : Key} (r : UV g w u v) (e : keyU u = some k) : v = kV k := by
  cases u with
  | int i => cases e; exact r
  | str s => cases e; exact r
  | _ => cases e
/-- pairs -/
def UPs (g : Gc) (w : Wd) : List (U × U) → List (V × V) → Prop
  | [], vs => vs = []
  | p :: ps, vs => ∃ v r, vs = v :: r ∧ UV g w p.1 v.1 ∧ UV g w p.2 v.2 ∧ UPs g w ps r
theorem UPs.up {g : Gc} {w w' : Wd} (e : Ext w w') : ∀ {us : List (U × U)} {vs : List (V × V)}, UPs g w us vs → UPs g w' us vs
  | [], _, r => r
  | _ :: _, _, ⟨v, r, h, a, b, t⟩ => ⟨v, r, h, a.up e, b.up e, UPs.up e t⟩
theorem UPs.keys {g : Gc} {w : Wd} : ∀ {us : List (U × U)} {vs : List (V × V)} {ks : List Key}, UPs g w us vs → keysU us = some ks →
    vs = (ks.zip (vs.map (·.2))).map (fun kv => (kV kv.1, kv.2)) ∧ UVs g w (us.map (·.2)) (vs.map (·.2)) ∧ ks.length = (vs.map (·.2)).length
  | [], _, _, r, e => by cases (show _ = [] from r); cases e; exact ⟨rfl, rfl, rfl⟩
  | p :: ps, _, ks, ⟨v, r, h, a, b, t⟩, e => by
    subst h
    unfold keysU at e
    cases e1 : keyU p.1 with
    | none => rw [e1] at e; cases e
    | some k =>
      cases e2 : keysU ps with
      | none => rw [e1, e2] at e; cases e
      | some ks' =>
        rw [e1, e2] at e
        cases e
        obtain ⟨h1, h2, h3⟩ := UPs.keys t e2
        refine ⟨?_, ⟨v.2, _, rfl, b, h2⟩, by simp at h3 ⊢; omega⟩
        show v :: r = (kV k, v.2) :: _
        rw [← keyU_ok a e1]
        exact congrArg (v :: ·) h1
theorem mergeK_new : ∀ (more kvs : List (Key × V)), ((kvs ++ more).map (·.1)).Nodup → mergeK kvs more = kvs ++ more
  | [], kvs, _ => by simp [mergeK]
  | p :: more, kvs, h => by
    have hn : valV kvs p.1 = none := by
      have z := valV_any p.1 kvs
      cases e : valV kvs p.1 with
      | none => rfl
      | some x =>
        rw [e] at z
        have z' : (kvs.any fun kv => decide (kv.1 = p.1)) = true := z
        obtain ⟨q, hq, hk⟩ := List.any_eq_true.mp z'
        have hk' : q.1 = p.1 := of_decide_eq_true hk
        rw [List.map_append, List.map_cons] at h
        have := (List.nodup_append.mp h).2.2 q.1 (List.mem_map_of_mem hq) p.1 List.mem_cons_self
        exact absurd hk' this
    show mergeK (putK kvs p.1 p.2) more = _
    rw [putK_new p.2 hn, mergeK_new more (kvs ++ [(p.1, p.2)]) (by rw [List.append_assoc]; exact h), List.append_assoc]
    rfl
abbrev MP := T → Cs → R (List (U × U))
structure DPs (X : Cx) (g : Gc) (Wx : WX) (pos : Pos) (keys : List (Option Expr)) (values : List Expr) (mp : MP) : Prop where
  ex : ∃ trs, PPs X pos keys values trs ∧ ∀ w τ c σ H (Q : List (V × V) → Hp → Prop), SR g w τ σ → HRel g w c H → Post g w σ Wx (UPs g) Q (mp τ c) → tPairs trs σ H Q
def mpNil : MP := fun _ c => .ok [] c
def mpCons (mk mv : ME) (mp : MP) : MP := fun τ c => (mk τ c).bind fun k c1 => (mv τ c1).bind fun v c2 => (mp τ c2).bind fun r c3 => .ok ((k, v) :: r) c3
section
variable {X : Cx} {g : Gc} {Wx : WX} {pos : Pos} {keys : List (Option Expr)} {values : List Expr} {mp : MP} {k v : Expr} {mk mv : ME}
theorem dps_nil : DPs X g Wx pos [] [] mpNil := ⟨[], pps_nil, fun w τ c σ H Q hs hh q => Post.here q hh rfl⟩
theorem dps_cons (hk : DE X g Wx k mk) (hv : DE X g Wx v mv) (hr : DPs X g Wx pos keys values mp) : DPs X g Wx pos (some k :: keys) (v :: values) (mpCons mk mv mp) := by
  obtain ⟨trs, h1, h2⟩ := hr.ex
  refine ⟨_, pps_cons hk hv h1, fun w τ c σ H Q hs hh q => ?_⟩
  refine rd_bind q hs hh fun ku c1 w1 x H1 e1 hh1 r1 s1 q1 => rd_bind q1 s1 hh1 fun vu c2 w2 y H2 e2 hh2 r2 s2 q2 => ?_
  refine h2 w2 τ c2 σ H2 _ s2 hh2 ?_
  revert q2
  cases mp τ c2 with
  | ok r c3 => exact fun q2 w3 ps H3 e3 h3 r3 => q2 w3 _ H3 e3 h3 ⟨(x, y), ps, rfl, (r1.up e2).up e3, r2.up e3, r3⟩
  | exc e c3 => exact fun q2 => q2
  | bad => exact fun q2 => q2
open Classical in
/-- a display of a dict: 0 kept, the cells as they were; 2 a cell -/
noncomputable def mDict (mode : Nat) (mp : MP) : ME := fun τ c => (mp τ (c ++ [.dK [] []])).bind fun ps c2 => match keysU ps, c2[c.length]? with
  | some ks, some (.dK [] []) => if ks.Nodup ∧ ks.length ≤ 15 then (if mode = 2 then .ok (.cel c.length) (c2.set c.length (.dK ks (ps.map (·.2)))) else if noCels (ps.map (·.2)) = true ∧ c2.take c.length = c then .ok (.dK ks (ps.map (·.2))) c else .bad) else .bad
  | _, _ => .bad
theorem de_dict (mode : Nat) (h : DPs X g Wx pos keys values mp) (hall : keys.all (·.isSome) = true := by rfl) (hl : keys.length = values.length := by rfl) (h0 : keys ≠ [] := by exact fun z => by cases z) (h15 : keys.length ≤ 15 := by decide) : DE X g Wx (.Dict keys values pos) (mDict mode mp) := by
  obtain ⟨trs, h1, h2⟩ := h.ex
  refine pe_imp (pe_disp h1 hall hl h0 h15) fun σ H Q ⟨w, τ, c, hs, hh, q⟩ => fun D hD => ?_
  obtain ⟨hc0, ec0⟩ := hh.newC (o := .dK []) (cl := .dK [] []) hD rfl fun w' e => ⟨[], upd_same, rfl, rfl⟩
  generalize hwD : (⟨fun j => if j = c.length then some D else w.ρ j, w.fz, w.ex⟩ : Wd) = wD at hc0 ec0
  have hρ : wD.ρ c.length = some D := by subst hwD; exact if_pos rfl
  refine h2 wD τ _ σ _ _ (hs.up ec0) hc0 ?_
  unfold mDict at q
  revert q
  cases mp τ (c ++ [.dK [] []]) with
  | exc e c2 => exact fun q => Post.up ec0 q
  | bad => exact fun q => q
  | ok ps c2 =>
    intro q w2 vs H2 e2 hh2 r2
    simp only [bind_ok] at q
    split at q
    · rename_i ks hk hcell
      split at q
      · rename_i kk
        obtain ⟨a, ea, ⟨vs0, hv0, hl0, _⟩, _⟩ := hh2.cel _ _ hcell
        rw [e2.ρ _ _ hρ] at ea; cases ea
        obtain ⟨p1, p2, p3⟩ := r2.keys hk
        have hH2 : H2 D = some (.dK []) := by rw [hv0]; rfl
        have hkeys : (ks.zip (vs.map (·.2))).map (·.1) = ks := List.map_fst_zip (by omega)
        have hm : mergeK [] (ks.zip (vs.map (·.2))) = ks.zip (vs.map (·.2)) := mergeK_new _ [] (by rw [List.nil_append, hkeys]; exact kk.1)
        refine ⟨hH2, ks.zip (vs.map (·.2)), p1, by rw [List.length_zip]; omega, ?_⟩
        rw [hm]
        have h3 := hh2.setC (o := .dK (ks.zip (vs.map (·.2)))) (cl := .dK ks (ps.map (·.2))) hcell rfl (e2.ρ _ _ hρ) rfl ⟨_, upd_same, p3, p2⟩
        have hlen : c.length < c2.length := (List.getElem?_eq_some_iff.mp hcell).1
        split at q
        · exact q w2 (.ref D) _ (ec0.trans e2) h3 ⟨D, e2.ρ _ _ hρ, rfl⟩
        · split at q
          · rename_i nc
            obtain ⟨h4, x4⟩ := h3.freeze (n := c.length) (a := D) (List.getElem?_set_self hlen) rfl (e2.ρ _ _ hρ) upd_same
            have ht : ((c2.set c.length (.dK ks (ps.map (·.2)))).set c.length Cell.dead).take c.length = c := by
              rw [List.take_set_of_le (Nat.le_refl _), List.take_set_of_le (Nat.le_refl _)]; exact nc.2
            obtain ⟨h5, x5⟩ := hh.cut ((ec0.trans e2).trans x4) h4 ht
            exact q _ (.ref D) _ x5 h5 (UV.cut (u := .dK ks (ps.map (·.2))) (by simpa [noCel] using nc.1) ⟨D, _, rfl, upd_same, p3, p2.up x4⟩)
          · exact q.elim
      · exact q.elim
    · exact q.elim
end
end Mi
namespace Mi
open PySem PySem.Spec PyProof.Rows L2

theorem pdL_ints (f : U → Option PyData) (hf : ∀ i, f (.int i) = some (.int i)) : ∀ ns : List Int, pdL f (ns.map .int) = some (ns.map .int)
  | [] => rfl
  | n :: ns => by simp only [List.map_cons, pdL, hf, pdL_ints f hf ns, Option.bind_some, Option.map_some]
theorem lay_ints : ∀ ns : List Int, PyData.canLayAll0 (ns.map PyData.int) = true
  | [] => rfl
  | n :: ns => by simp only [List.map_cons, PyData.canLayAll0, PyData.canLay0, lay_ints ns, Bool.and_self]
theorem eqvAll_nil (ds : List PyData) : PyData.eqvAll ds [] = ds.isEmpty := by
  cases ds <;> simp [PyData.eqvAll]
theorem pd_l {c : Cs} {u : U} {xs : List U} (h : lview c u = some xs) (n : Nat) : pd (n + 1) c u = (pdL (pd n c) xs).map .list := by
  cases u with
  | lst ys => cases h; rfl
  | slst ys => cases h; rfl
  | cel k => show (lview c (.cel k)).bind _ = _; rw [h]; rfl
  | _ => cases h
theorem pd_ints {c : Cs} {u : U} {ns : List Int} (h : lview c u = some (ns.map .int)) (n : Nat) : pd (n + 2) c u = some (.list (ns.map .int)) := by
  rw [pd_l h (n + 1), pdL_ints _ fun i => rfl]; rfl
theorem fEq_data {c : Cs} {u v : U} {xs : List U} (h : lview c u = some xs) (neg : Bool) : fEq neg u v c = (pd 6 c u).bind fun d => (pd 6 c v).bind fun e => if d.canLay0 && e.canLay0 then some (.bl (if neg then !PyData.eqv d e else PyData.eqv d e), c) else none := by
  unfold fEq
  split
  · cases h
  · cases h
  · rfl
/-- a list of ints against [] -/
theorem fEq_nil {c : Cs} {u : U} {ns : List Int} (h : lview c u = some (ns.map .int)) (neg : Bool) : fEq neg u (.lst []) c = some (.bl (if neg then !ns.isEmpty else ns.isEmpty), c) := by
  have e2 : pd 6 c (.lst []) = some (.list []) := rfl
  rw [fEq_data h, pd_ints h 4, e2]
  have : PyData.eqv (.list (ns.map .int)) (.list []) = ns.isEmpty := by
    simp only [PyData.eqv, eqvAll_nil, List.isEmpty_map]
  simp only [Option.bind_some, PyData.canLay0, lay_ints, PyData.canLayAll0, Bool.and_self, if_true, this]
theorem fEq_celnil {c : Cs} {a : Nat} {ns : List Int} (h : c[a]? = some (.lst (ns.map .int))) (neg : Bool) : fEq neg (.cel a) (.lst []) c = some (.bl (if neg then !ns.isEmpty else ns.isEmpty), c) :=
  fEq_nil (by simp [lview, h]) neg
/-! ### the state of a draw -/
def owned (c : Cs) (s i : Nat) : Prop := ∃ xs, c[s]? = some (.lst (.cel i :: xs))
structure Frm (s : Nat) (c c' : Cs) : Prop where
  le : c.length ≤ c'.length
  own : ∀ i, i < c.length → owned c' s i → owned c s i
  keep : ∀ i, i < c.length → i ≠ s → ¬ owned c s i → c'[i]? = c[i]?
theorem Frm.refl (s : Nat) (c : Cs) : Frm s c c := ⟨Nat.le_refl _, fun _ _ h => h, fun _ _ _ _ => rfl⟩
theorem Frm.trans {s : Nat} {a b c : Cs} (h : Frm s a b) (k : Frm s b c) : Frm s a c :=
  ⟨Nat.le_trans h.le k.le, fun i hi o => h.own i hi (k.own i (Nat.lt_of_lt_of_le hi h.le) o), fun i hi ns no => (k.keep i (Nat.lt_of_lt_of_le hi h.le) ns fun o => no (h.own i hi o)).trans (h.keep i hi ns no)⟩
/-- the drawn numbers' state at cell s; not more than K were drawn -/
def Sq (c : Cs) (s K : Nat) : Prop := ∃ (a : Nat) (bigs base : List Int) (k : Int), a ≠ s ∧ c[s]? = some (.lst [.cel a, .lst (base.map .int), .int k]) ∧ c[a]? = some (.lst (bigs.map .int)) ∧
  0 < base.length ∧ base.length ≤ 1000 ∧ bigs.length ≤ 63 ∧ (∀ b ∈ bigs, 0 ≤ b) ∧ 0 ≤ k ∧ k ≤ K
theorem Sq.up {c : Cs} {s K K' : Nat} (h : Sq c s K) (l : K ≤ K') : Sq c s K' := by
  obtain ⟨a, b1, b2, k, h1, h2, h3, h4, h5, h6, h7, h8, h9⟩ := h
  exact ⟨a, b1, b2, k, h1, h2, h3, h4, h5, h6, h7, h8, by omega⟩
theorem Sq.lt {c : Cs} {s K : Nat} (h : Sq c s K) : s < c.length := by
  obtain ⟨a, b1, b2, k, h1, h2, _⟩ := h
  exact (List.getElem?_eq_some_iff.mp h2).1
def drawT : MT := mtAnd (mB (m2 (fEq true) (m2 fIx (mVar 0) (mC (.int 0))) (mLst false (maNil)))) (mB (m2 (fEq false) (m2 fIx (m2 fIx (mVar 0) (mC (.int 0))) (mC (.int 0))) (mC (.int 0))))
def drawS : MS := msCons (msPut (mVar 0) (mC (.int 0)) (mSl true (m2 fIx (mVar 0) (mC (.int 0))) (moSome (mC (.int 1))) (moNone))) (msNil)
def drawB (A B C D : Int) : MS := msCons (msPut (mVar 0) (mC (.int 2)) (m2 (fAdd false) (m2 fIx (mVar 0) (mC (.int 2))) (mC (.int 1)))) (msCons (msWhile 100 drawT drawS) (msCons (msIf (mB (m2 (fEq true) (m2 fIx (mVar 0) (mC (.int 0))) (mLst false (maNil)))) (msCons (msSet 4 (m2 fMod (mCall fInt (maCons (m2 fIx (m2 fIx (mVar 0) (mC (.int 0))) (mC (.int 0))) (maNil))) (mVar 1))) (msCons (msPut (m2 fIx (mVar 0) (mC (.int 0))) (mC (.int 0)) (m2 fDiv (m2 fIx (m2 fIx (mVar 0) (mC (.int 0))) (mC (.int 0))) (mVar 1))) (msCons (msRet (mVar 4)) (msNil)))) (msNil)) (msCons (msSet 2 (m2 fMod (mCall fInt (maCons (m2 fIx (m2 fIx (mVar 0) (mC (.int 1))) (m2 fMod (mCall fInt (maCons (m2 fIx (mVar 0) (mC (.int 2))) (maNil))) (mCall fLen (maCons (m2 fIx (mVar 0) (mC (.int 1))) (maNil))))) (maNil))) (mC (.int 2147483647)))) (msCons (msSet 3 (m2 fMod (mCall fInt (maCons (m2 fPow (m2 (fAdd false) (m2 (fAdd false) (m2 (fMul false) (mVar 2) (mC (.int A))) (m2 (fMul false) (m2 fIx (mVar 0) (mC (.int 2))) (mC (.int B)))) (mC (.int 7))) (mC (.int 5))) (maNil))) (mC (.int 2147483647)))) (msCons (msRet (m2 fMod (m2 fDiv (m2 fMod (mCall fInt (maCons (m2 fPow (m2 (fAdd false) (m2 (fAdd false) (m2 (fMul false) (mVar 3) (mC (.int C))) (m2 (fMul false) (m2 fIx (mVar 0) (mC (.int 2))) (mC (.int D)))) (mC (.int 13))) (mC (.int 5))) (maNil))) (mC (.int 2147483629))) (mC (.int 16))) (mVar 1))) (msNil))))))
theorem at0 {α : Type} (x : α) (xs : List α) : atI (x :: xs) 0 = some x := atI_nat (j := 0) rfl
theorem at1 {α : Type} (x y : α) (xs : List α) : atI (x :: y :: xs) 1 = some y := atI_nat (j := 1) rfl
theorem at2 {α : Type} (x y z : α) (xs : List α) : atI (x :: y :: z :: xs) 2 = some z := atI_nat (j := 2) rfl
theorem ix_cel {c : Cs} {s : Nat} {xs : List U} (h : c[s]? = some (.lst xs)) (i : Int) : fIx (.cel s) (.int i) c = (atI xs i).map fun z => (z, c) := by
  simp [fIx, lview, h]
/-- one turn of the while -/
theorem drawT_run {τ : T} {c : Cs} {s a : Nat} {L : U} {k : Int} {bigs : List Int} (h0 : τ[0]? = some (some (.cel s))) (hs : c[s]? = some (.lst [.cel a, L, .int k])) (ha : c[a]? = some (.lst (bigs.map .int))) :
    drawT τ c = .ok (match bigs with | [] => false | b :: _ => decide (b = 0)) c := by
  unfold drawT
  simp only [mtAnd, mB, m2, mVar, mC, h0, bind_ok, ix_cel hs, at0, Option.map_some, ofO_some, mLst, maNil, List.length_nil, Nat.zero_le, if_true, mkL, Bool.false_eq_true, if_false, fEq_celnil ha]
  cases bigs with
  | nil => simp
  | cons b bs =>
    simp only [List.isEmpty_cons, Bool.not_false, if_true, bind_ok, ix_cel (show c[a]? = some (.lst (.int b :: bs.map .int)) from ha), at0, Option.map_some, ofO_some, fEq, if_false, Bool.false_eq_true]
theorem whDraw {τ : T} {s : Nat} {L : U} {k : Int} (h0 : τ[0]? = some (some (.cel s))) : ∀ (fuel : Nat) {c : Cs} {a : Nat} {bigs : List Int}, bigs.length < fuel → a ≠ s → c[s]? = some (.lst [.cel a, L, .int k]) → c[a]? = some (.lst (bigs.map .int)) → (∀ b ∈ bigs, 0 ≤ b) →
    ∃ c' a' bigs', whGo drawT drawS fuel τ c = .nx τ c' ∧ a' ≠ s ∧ c'[s]? = some (.lst [.cel a', L, .int k]) ∧ c'[a']? = some (.lst (bigs'.map .int)) ∧ (∀ b ∈ bigs', 0 ≤ b) ∧ bigs'.length ≤ bigs.length ∧ (∀ b bs, bigs' = b :: bs → b ≠ 0) ∧ Frm s c c'
  | 0, _, _, _, h, _, _, _, _ => by omega
  | fuel + 1, c, a, bigs, hl, hne, hs, ha, hp => by
    unfold whGo
    rw [drawT_run h0 hs ha]
    simp only [bindS_ok]
    cases bigs with
    | nil => exact ⟨c, a, [], by simp, hne, hs, ha, hp, Nat.le_refl _, by simp, Frm.refl s c⟩
    | cons b bs =>
      by_cases hb : b = 0
      · subst hb
        have hsl : s < c.length := (List.getElem?_eq_some_iff.mp hs).1
        have hal : a < c.length := (List.getElem?_eq_some_iff.mp ha).1
        have e1 : drawS τ c = .nx τ ((c ++ [Cell.lst (bs.map .int)]).set s (.lst [.cel c.length, L, .int k])) := by
          unfold drawS
          have hs1 : (c ++ [Cell.lst (bs.map U.int)])[s]? = some (.lst [.cel a, L, .int k]) := by rw [List.getElem?_append_left hsl]; exact hs
          have hsl2 : fSl true (.cel a) (some 1) none c = some (.cel c.length, c ++ [Cell.lst (bs.map .int)]) := by
            simp only [fSl, lview, ha, Option.map_some, mkL, if_true, HT.sIx, List.length_cons, List.map_cons]
            simp [HT.sIx, List.take_of_length_le]
          simp only [msCons, msPut, mSl, m2, mVar, mC, h0, bind_ok, ix_cel hs, at0, Option.map_some, ofO_some, moSome, moNone, hsl2, bindS_ok, fPut, hs1, ixN, List.length_cons, List.length_nil]
          simp [msNil]
        rw [e1]
        simp only [decide_true, if_true]
        have hs2 : ((c ++ [Cell.lst (bs.map U.int)]).set s (.lst [.cel c.length, L, .int k]))[s]? = some (.lst [.cel c.length, L, .int k]) := List.getElem?_set_self (by rw [List.length_append]; omega)
        have ha2 : ((c ++ [Cell.lst (bs.map U.int)]).set s (.lst [.cel c.length, L, .int k]))[c.length]? = some (.lst (bs.map .int)) := by
          rw [List.getElem?_set_ne (by omega), List.getElem?_append_right (Nat.le_refl _)]; simp
        obtain ⟨c', a', bigs', h1, h2, h3, h4, h5, h6, h7, h8⟩ := whDraw h0 fuel (bigs := bs) (by simp at hl; omega) (by omega) hs2 ha2 (fun b hb => hp b (List.mem_cons_of_mem _ hb))
        have fr : Frm s c ((c ++ [Cell.lst (bs.map .int)]).set s (.lst [.cel c.length, L, .int k])) := by
          refine ⟨by simp, ?_, ?_⟩
          · intro i hi ho
            obtain ⟨xs, o⟩ := ho
            rw [hs2] at o; cases o; omega
          · intro i hi hn _
            rw [List.getElem?_set_ne (Ne.symm hn), List.getElem?_append_left hi]
        exact ⟨c', a', bigs', h1, h2, h3, h4, h5, by simp; omega, h7, Frm.trans fr h8⟩
      · refine ⟨c, a, b :: bs, by simp [hb], hne, hs, ha, hp, Nat.le_refl _, fun b' bs' e => ?_, Frm.refl s c⟩
        cases e; exact hb
/-- THE DRAW: a number below the size, the state goes on -/
theorem fr_set {s : Nat} {c : Cs} {a : Nat} {L L' k k' : U} (hs : c[s]? = some (.lst [.cel a, L, k])) : Frm s c (c.set s (.lst [.cel a, L', k'])) := by
  have hsl : s < c.length := (List.getElem?_eq_some_iff.mp hs).1
  refine ⟨by simp, ?_, ?_⟩
  · intro i hi ho
    obtain ⟨xs, o⟩ := ho
    rw [List.getElem?_set_self hsl] at o
    cases o
    exact ⟨_, hs⟩
  · intro i hi hn _
    rw [List.getElem?_set_ne (Ne.symm hn)]
theorem fr_seta {s : Nat} {c : Cs} {a : Nat} {L k : U} {cl : Cell} (hne : a ≠ s) (hs : c[s]? = some (.lst [.cel a, L, k])) : Frm s c (c.set a cl) := by
  refine ⟨by simp, ?_, ?_⟩
  · intro i hi ho
    obtain ⟨xs, o⟩ := ho
    rw [List.getElem?_set_ne hne] at o
    exact ⟨_, o⟩
  · intro i hi hn ho
    have : a ≠ i := fun z => by subst z; exact ho ⟨_, hs⟩
    rw [List.getElem?_set_ne this]
theorem natAbs_lt_64 {x : Int} (h0 : 0 ≤ x) (h : x < 18446744073709551616) : x.natAbs < 2 ^ 64 := by omega
theorem log2_small {x : Int} (h : x.natAbs < 2 ^ 64) : x.natAbs.log2 < 64 := by
  by_cases hz : x.natAbs = 0
  · rw [hz]; decide
  · exact (Nat.log2_lt hz).mpr h
theorem mul_small {x y : Int} (hx : x.natAbs < 2 ^ 64) (hy : y.natAbs < 2 ^ 64) : x.natAbs.log2 + y.natAbs.log2 < 1000000 := by
  have := log2_small hx
  have := log2_small hy
  omega
def Small (A : Int) : Prop := 0 ≤ A ∧ A ≤ 100000
theorem powered {x A k B r : Int} (h0 : 0 ≤ x) (h1 : x < 2147483648) (hA : Small A) (hB : Small B) (hk0 : 0 ≤ k) (hk : k ≤ 1000000) (hr0 : 0 ≤ r) (hr : r ≤ 100) : (x * A + k * B + r).natAbs < 2 ^ 64 := by
  have a1 : x * A ≤ 2147483648 * 100000 := Int.mul_le_mul (by omega) hA.2 hA.1 (by omega)
  have a2 : k * B ≤ 1000000 * 100000 := Int.mul_le_mul hk hB.2 hB.1 (by omega)
  have a3 : 0 ≤ x * A := Int.mul_nonneg h0 hA.1
  have a4 : 0 ≤ k * B := Int.mul_nonneg hk0 hB.1
  omega
theorem draw_ok {A B C D : Int} (hA : Small A) (hB : Small B) (hC : Small C) (hD : Small D) {c : Cs} {s K : Nat} {size : Int} (hS : Sq c s K) (hK : K < 1000000) (h0 : 0 < size) (hz : size.natAbs.log2 < 9000) :
    ∃ d c', mkF false 5 (drawB A B C D) [.cel s, .int size] c = .ok (.int d) c' ∧ 0 ≤ d ∧ d < size ∧ Sq c' s (K + 1) ∧ Frm s c c' := by
  obtain ⟨a, bigs, base, k, hne, hs, ha, hb0, hb1, hlen, hpos, hk0, hk⟩ := hS
  have hsl : s < c.length := (List.getElem?_eq_some_iff.mp hs).1
  -- the counter
  have f1 := fr_set (L' := .lst (base.map .int)) (k' := .int (k + 1)) hs
  generalize hc1 : c.set s (.lst [.cel a, .lst (base.map .int), .int (k + 1)]) = c1 at f1
  have hs1 : c1[s]? = some (.lst [.cel a, .lst (base.map .int), .int (k + 1)]) := by subst hc1; exact List.getElem?_set_self hsl
  have ha1 : c1[a]? = some (.lst (bigs.map .int)) := by subst hc1; rw [List.getElem?_set_ne (Ne.symm hne)]; exact ha
  have e1 : msPut (mVar 0) (mC (.int 2)) (m2 (fAdd false) (m2 fIx (mVar 0) (mC (.int 2))) (mC (.int 1))) (startU 5 [.cel s, .int size]) c = .nx (startU 5 [.cel s, .int size]) c1 := by
    subst hc1
    simp [msPut, m2, mVar, mC, startU, ix_cel hs, at2, fAdd, fPut, hs, ixN]
  obtain ⟨c2, a2, bigs2, e2, hne2, hs2, ha2, hp2, hl2, hz2, f2⟩ := whDraw (τ := startU 5 [.cel s, .int size]) rfl 100 (by omega) hne hs1 ha1 hpos
  have F12 := f1.trans f2
  unfold mkF drawB
  simp only [msCons, e1, seq_nx, msWhile, e2]
  have hv0 : ∀ c, mVar 0 (startU 5 [.cel s, .int size]) c = .ok (.cel s) c := fun c => rfl
  have hv1 : ∀ c, mVar 1 (startU 5 [.cel s, .int size]) c = .ok (.int size) c := fun c => rfl
  have hsl2 : s < c2.length := (List.getElem?_eq_some_iff.mp hs2).1
  have hal2 : a2 < c2.length := (List.getElem?_eq_some_iff.mp ha2).1
  cases bigs2 with
  | cons b bs =>
    have hb : (c2[a2]? = some (.lst (.int b :: bs.map .int))) := ha2
    have hbp : 0 ≤ b := hp2 b List.mem_cons_self
    have test : mB (m2 (fEq true) (m2 fIx (mVar 0) (mC (.int 0))) (mLst false maNil)) (startU 5 [.cel s, .int size]) c2 = .ok true c2 := by
      simp [mB, m2, hv0, mC, ix_cel hs2, at0, mLst, maNil, mkL, fEq_celnil ha2]
    have s1 : msSet 4 (m2 fMod (mCall fInt (maCons (m2 fIx (m2 fIx (mVar 0) (mC (.int 0))) (mC (.int 0))) maNil)) (mVar 1)) (startU 5 [.cel s, .int size]) c2 = .nx ((startU 5 [.cel s, .int size]).set 4 (some (.int (b % size)))) c2 := by
      simp [msSet, m2, mCall, maCons, maNil, hv0, hv1, mC, ix_cel hs2, ix_cel hb, at0, fInt, fMod, fInt2, h0]
    have s2 : msPut (m2 fIx (mVar 0) (mC (.int 0))) (mC (.int 0)) (m2 fDiv (m2 fIx (m2 fIx (mVar 0) (mC (.int 0))) (mC (.int 0))) (mVar 1)) ((startU 5 [.cel s, .int size]).set 4 (some (.int (b % size)))) c2
        = .nx ((startU 5 [.cel s, .int size]).set 4 (some (.int (b % size)))) (c2.set a2 (.lst (.int (b / size) :: bs.map .int))) := by
      simp [msPut, m2, mVar, startU, mC, ix_cel hs2, ix_cel hb, at0, fDiv, fInt2, h0, hz, fPut, hb, ixN]
    refine ⟨b % size, c2.set a2 (.lst (.int (b / size) :: bs.map .int)), ?_, Int.emod_nonneg _ (by omega), Int.emod_lt_of_pos _ h0, ?_, F12.trans (fr_seta hne2 hs2)⟩
    · simp only [msIf, test, bindS_ok, if_true, msCons, s1, seq_nx, s2]
      simp [msRet, mVar, startU, finF]
    · refine ⟨a2, b / size :: bs, base, k + 1, hne2, ?_, ?_, hb0, hb1, by simp at hl2 ⊢; omega, ?_, by omega, by push_cast; omega⟩
      · rw [List.getElem?_set_ne hne2]; exact hs2
      · rw [List.getElem?_set_self hal2]; rfl
      · intro x hx
        rcases List.mem_cons.mp hx with rfl | hx
        · exact Int.ediv_nonneg hbp (by omega)
        · exact hp2 x (List.mem_cons_of_mem _ hx)
  | nil =>
    have test : mB (m2 (fEq true) (m2 fIx (mVar 0) (mC (.int 0))) (mLst false maNil)) (startU 5 [.cel s, .int size]) c2 = .ok false c2 := by
      simp [mB, m2, hv0, mC, ix_cel hs2, at0, mLst, maNil, mkL, fEq_celnil ha2]
    have hbl : (0 : Int) < (base.length : Int) := by omega
    have hmod0 : 0 ≤ (k + 1) % (base.length : Int) := Int.emod_nonneg _ (by omega)
    have hmod1 : (k + 1) % (base.length : Int) < base.length := Int.emod_lt_of_pos _ hbl
    obtain ⟨cell, hcell⟩ : ∃ cell, atI (base.map U.int) ((k + 1) % (base.length : Int)) = some (.int cell) := by
      obtain ⟨j, hj⟩ : ∃ j : Nat, (k + 1) % (base.length : Int) = (j : Int) := ⟨((k + 1) % (base.length : Int)).toNat, by omega⟩
      have hjl : j < base.length := by omega
      refine ⟨base[j], ?_⟩
      rw [hj]
      exact atI_nat (by simp [hjl])
    have x0 : 0 ≤ cell % 2147483647 := Int.emod_nonneg _ (by omega)
    have x1 : cell % 2147483647 < 2147483647 := Int.emod_lt_of_pos _ (by omega)
    have s1 : msSet 2 (m2 fMod (mCall fInt (maCons (m2 fIx (m2 fIx (mVar 0) (mC (.int 1))) (m2 fMod (mCall fInt (maCons (m2 fIx (mVar 0) (mC (.int 2))) maNil)) (mCall fLen (maCons (m2 fIx (mVar 0) (mC (.int 1))) maNil)))) maNil)) (mC (.int 2147483647))) (startU 5 [.cel s, .int size]) c2
        = .nx ((startU 5 [.cel s, .int size]).set 2 (some (.int (cell % 2147483647)))) c2 := by
      have e : fIx (.lst (base.map .int)) (.int ((k + 1) % (base.length : Int))) c2 = some (.int cell, c2) := by simp [fIx, lview, hcell]
      simp [msSet, m2, mCall, maCons, maNil, hv0, mC, ix_cel hs2, at1, at2, fInt, fMod, fInt2, fLen, lview, hb0, e]
    generalize hX : cell % 2147483647 = X0 at *
    have p1 : (X0 * A + (k + 1) * B + 7).natAbs < 2 ^ 64 := powered x0 (by omega) hA hB (by omega) (by omega) (by decide) (by decide)
    have A64 : A.natAbs < 2 ^ 64 := by have := hA.1; have := hA.2; omega
    have B64 : B.natAbs < 2 ^ 64 := by have := hB.1; have := hB.2; omega
    have C64 : C.natAbs < 2 ^ 64 := by have := hC.1; have := hC.2; omega
    have D64 : D.natAbs < 2 ^ 64 := by have := hD.1; have := hD.2; omega
    have K64 : (k + 1).natAbs < 2 ^ 64 := by omega
    have X64 : X0.natAbs < 2 ^ 64 := by omega
    generalize hY : (X0 * A + (k + 1) * B + 7) ^ 5 % 2147483647 = Y0
    have y0 : 0 ≤ Y0 := by subst hY; exact Int.emod_nonneg _ (by omega)
    have y1 : Y0 < 2147483647 := by subst hY; exact Int.emod_lt_of_pos _ (by omega)
    have Y64 : Y0.natAbs < 2 ^ 64 := by omega
    have p2 : (Y0 * C + (k + 1) * D + 13).natAbs < 2 ^ 64 := powered y0 (by omega) hC hD (by omega) (by omega) (by decide) (by decide)
    have s2 : msSet 3 (m2 fMod (mCall fInt (maCons (m2 fPow (m2 (fAdd false) (m2 (fAdd false) (m2 (fMul false) (mVar 2) (mC (.int A))) (m2 (fMul false) (m2 fIx (mVar 0) (mC (.int 2))) (mC (.int B)))) (mC (.int 7))) (mC (.int 5))) maNil)) (mC (.int 2147483647)))
        ((startU 5 [.cel s, .int size]).set 2 (some (.int X0))) c2 = .nx (((startU 5 [.cel s, .int size]).set 2 (some (.int X0))).set 3 (some (.int Y0))) c2 := by
      subst hY
      simp [msSet, m2, mCall, maCons, maNil, mVar, startU, mC, ix_cel hs2, at2, fInt, fMod, fInt2, fMul, fAdd, fPow, mul_small X64 A64, mul_small K64 B64, p1]
    have s3 : msRet (m2 fMod (m2 fDiv (m2 fMod (mCall fInt (maCons (m2 fPow (m2 (fAdd false) (m2 (fAdd false) (m2 (fMul false) (mVar 3) (mC (.int C))) (m2 (fMul false) (m2 fIx (mVar 0) (mC (.int 2))) (mC (.int D)))) (mC (.int 13))) (mC (.int 5))) maNil)) (mC (.int 2147483629))) (mC (.int 16))) (mVar 1))
        (((startU 5 [.cel s, .int size]).set 2 (some (.int X0))).set 3 (some (.int Y0))) c2 = .ret (.int ((Y0 * C + (k + 1) * D + 13) ^ 5 % 2147483629 / 16 % size)) c2 := by
      have l16 : Nat.log2 16 < 9000 := by decide
      simp [msRet, m2, mCall, maCons, maNil, mVar, startU, mC, ix_cel hs2, at2, fInt, fMod, fDiv, fInt2, fMul, fAdd, fPow, mul_small Y64 C64, mul_small K64 D64, p2, h0, l16]
    refine ⟨(Y0 * C + (k + 1) * D + 13) ^ 5 % 2147483629 / 16 % size, c2, ?_, Int.emod_nonneg _ (by omega), Int.emod_lt_of_pos _ h0, ?_, F12⟩
    · simp only [msCons, msIf, test, bindS_ok, Bool.false_eq_true, if_false, msNil, seq_nx, s1, s2, s3, seq_ret]
      simp [finF]
    · exact ⟨a2, [], base, k + 1, hne2, hs2, ha2, hb0, hb1, by simp, by simp, by omega, by push_cast; omega⟩
end Mi
namespace Mi
open PySem PySem.Spec PyProof.Rows L2

/-! ### comprehensions whose parts change nothing -/
theorem lcGo_pure {α : Type} {src : Src} {t : TT1} {mt : MT} {me : ME} {τ0 : T} (l : List α) (e : α → U) (p : α → Bool) (f : α → U) (c0 : Cs) (hsrc : ∀ acc, src (c0 ++ [Cell.lst acc]) = some (l.map e)) (hl : l.length ≤ 10000)
    (ht : ∀ x ∈ l, ∃ τ1, ∀ acc, t (e x) τ0 (c0 ++ [Cell.lst acc]) = some τ1 ∧ mt τ1 (c0 ++ [Cell.lst acc]) = .ok (p x) (c0 ++ [Cell.lst acc]) ∧ (p x = true → me τ1 (c0 ++ [Cell.lst acc]) = .ok (f x) (c0 ++ [Cell.lst acc]))) :
    ∀ (k i : Nat) (acc : List U), k + i = l.length → acc.length ≤ i → lcGo src t mt me τ0 c0.length k i (c0 ++ [Cell.lst acc]) = .ok () (c0 ++ [Cell.lst (acc ++ ((l.drop i).filter p).map f)])
  | 0, i, acc, h, _ => by
    unfold lcGo
    rw [hsrc]
    simp only [List.length_map]
    rw [if_pos (by omega), List.drop_eq_nil_of_le (by omega)]
    simp
  | k + 1, i, acc, h, ha => by
    have hi : i < l.length := by omega
    unfold lcGo
    rw [hsrc]
    simp only [List.getElem?_map, List.getElem?_eq_getElem hi, Option.map_some]
    obtain ⟨τ1, h1⟩ := ht l[i] (List.getElem_mem hi)
    obtain ⟨h2, h3, h4⟩ := h1 acc
    rw [h2]
    simp only [h3, bind_ok]
    have hd : l.drop i = l[i] :: l.drop (i + 1) := List.drop_eq_getElem_cons hi
    cases hp : p l[i] with
    | false =>
      simp only [Bool.false_eq_true, if_false]
      rw [lcGo_pure l e p f c0 hsrc hl ht k (i + 1) acc (by omega) (by omega), hd, List.filter_cons, hp]
      simp
    | true =>
      simp only [if_true, h4 hp, bind_ok]
      have hc : (c0 ++ [Cell.lst acc])[c0.length]? = some (.lst acc) := by rw [List.getElem?_append_right (Nat.le_refl _)]; simp
      have hs : (c0 ++ [Cell.lst acc]).set c0.length (.lst (acc ++ [f l[i]])) = c0 ++ [Cell.lst (acc ++ [f l[i]])] := by
        rw [List.set_append_right _ _ (Nat.le_refl _)]; simp
      rw [hc]
      simp only
      rw [if_pos (by omega), hs, lcGo_pure l e p f c0 hsrc hl ht k (i + 1) _ (by omega) (by simp; omega), hd, List.filter_cons, hp]
      simp
theorem mLc_pure {α : Type} {mode : Nat} {vs : List Nat} {mi : MI} {t : TT1} {mt : MT} {me : ME} {τ : T} {c c0 : Cs} (src : Src) (l : List α) (e : α → U) (p : α → Bool) (f : α → U) (hi : mi τ c = .ok src c0) (hsrc : ∀ acc, src (c0 ++ [Cell.lst acc]) = some (l.map e)) (hl : l.length ≤ 10000)
    (ht : ∀ x ∈ l, ∃ τ1, ∀ acc, t (e x) (wipeT τ vs) (c0 ++ [Cell.lst acc]) = some τ1 ∧ mt τ1 (c0 ++ [Cell.lst acc]) = .ok (p x) (c0 ++ [Cell.lst acc]) ∧ (p x = true → me τ1 (c0 ++ [Cell.lst acc]) = .ok (f x) (c0 ++ [Cell.lst acc]))) :
    mLc mode vs mi t mt me τ c = lcEnd mode c0 (.ok () (c0 ++ [Cell.lst ((l.filter p).map f)])) := by
  unfold mLc
  rw [hi]
  simp only [bind_ok, hsrc, Option.elim_some, List.length_map]
  have := lcGo_pure (mt := mt) (me := me) l e p f c0 hsrc hl ht l.length 0 [] (by omega) (by simp)
  rw [this]
  simp
theorem lcEnd0 {c0 : Cs} {acc : List U} (h : noCels acc = true) : lcEnd 0 c0 (.ok () (c0 ++ [Cell.lst acc])) = .ok (.lst acc) c0 := by
  unfold lcEnd
  have hc : (c0 ++ [Cell.lst acc])[c0.length]? = some (.lst acc) := by rw [List.getElem?_append_right (Nat.le_refl _)]; simp
  simp only [hc]
  simp [h]
theorem lcEnd2 {c0 c2 : Cs} : lcEnd 2 c0 (.ok () c2) = .ok (.cel c0.length) c2 := by
  unfold lcEnd; simp
theorem noCels_map {α : Type} (f : α → U) (h : ∀ x, noCel (f x) = true) : ∀ l : List α, noCels (l.map f) = true
  | [] => rfl
  | x :: l => by simp only [List.map_cons, noCels, h x, noCels_map f h l, Bool.and_self]
theorem noCels_app : ∀ l m : List U, noCels (l ++ m) = (noCels l && noCels m)
  | [], m => by simp [noCels]
  | x :: l, m => by simp only [List.cons_append, noCels, noCels_app l m, Bool.and_assoc]

/-! ### a for over what does not change -/
def forL (t : TT1) (body : MS) : List U → T → Cs → RS
  | [], τ, c => .nx τ c
  | u :: us, τ, c => match t u τ c with
    | none => .bad
    | some τ1 => match body τ1 c with
      | .nx τ2 c2 => forL t body us τ2 c2
      | .ct τ2 c2 => forL t body us τ2 c2
      | .bk τ2 c2 => .nx τ2 c2
      | r => r
theorem forGo_const {src : Src} {t : TT1} {body : MS} {xs : List U} (h : ∀ c, src c = some xs) : ∀ (k i : Nat) (τ : T) (c : Cs), k + i = xs.length → forGo src t body k i τ c = forL t body (xs.drop i) τ c
  | 0, i, τ, c, e => by
    unfold forGo
    rw [h]
    simp only
    rw [if_pos (by omega), List.drop_eq_nil_of_le (by omega)]
    rfl
  | k + 1, i, τ, c, e => by
    have hi : i < xs.length := by omega
    unfold forGo
    rw [h]
    simp only [List.getElem?_eq_getElem hi]
    rw [List.drop_eq_getElem_cons hi]
    unfold forL
    cases t xs[i] τ c with
    | none => rfl
    | some τ1 =>
      simp only
      cases body τ1 c with
      | nx τ2 c2 => exact forGo_const h k (i + 1) τ2 c2 (by omega)
      | ct τ2 c2 => exact forGo_const h k (i + 1) τ2 c2 (by omega)
      | bk τ2 c2 => rfl
      | ret u c2 => rfl
      | exc e τ2 c2 => rfl
      | bad => rfl
theorem msFor_const {mi : MI} {t : TT1} {body : MS} {τ : T} {c c1 : Cs} {src : Src} {xs : List U} (hi : mi τ c = .ok src c1) (h : ∀ c, src c = some xs) : msFor mi t body τ c = forL t body xs τ c1 := by
  unfold msFor
  rw [hi]
  simp only [bindS_ok, h, Option.elim_some]
  rw [forGo_const h xs.length 0 τ c1 (by omega), List.drop_zero]

/-! ### the start -/
noncomputable def startB : MS := msCons (msRet (mLst true (maCons (mLc 2 [1] (miList (mVar 0)) (tName 1) (mB (m2 fGe (mCall fAbs (maCons (mVar 1) (maNil))) (m2 fPow (mC (.int 10)) (mC (.int 18))))) (mCall fAbs (maCons (mVar 1) (maNil)))) (maCons (m2 (fAdd false) (mCall (fList false) (maCons (mVar 0) (maNil))) (mLst false (maCons (mC (.int 5)) (maNil)))) (maCons (mC (.int 0)) (maNil)))))) (msNil)
def bigsOf (ns : List Int) : List Int := (ns.filter fun i => decide (10 ^ 18 ≤ (if i < 0 then -i else i))).map fun i => (if i < 0 then -i else i)
theorem bigsOf_len (ns : List Int) : (bigsOf ns).length ≤ ns.length := by
  unfold bigsOf
  rw [List.length_map]; exact List.length_filter_le _ _
theorem bigsOf_pos (ns : List Int) : ∀ b ∈ bigsOf ns, 0 ≤ b := by
  intro b hb
  obtain ⟨i, _, rfl⟩ := List.mem_map.mp hb
  split <;> omega
theorem start_ok (ns : List Int) (h : ns.length ≤ 63) : ∃ c', mkF false 2 startB (scr ns) [] = .ok (.cel 1) c' ∧ Sq c' 1 0 ∧ c'.length = 2 := by
  have e1 : mLc 2 [1] (miList (mVar 0)) (tName 1) (mB (m2 fGe (mCall fAbs (maCons (mVar 1) (maNil))) (m2 fPow (mC (.int 10)) (mC (.int 18))))) (mCall fAbs (maCons (mVar 1) (maNil))) [some (.slst (ns.map .int)), none] []
      = .ok (.cel 0) [Cell.lst ((bigsOf ns).map .int)] := by
    rw [mLc_pure (c0 := []) (fun c => lview c (.slst (ns.map .int))) ns U.int (fun i => decide (10 ^ 18 ≤ (if i < 0 then -i else i))) (fun i => U.int (if i < 0 then -i else i)) (by simp [miList, mVar, lview]) (fun acc => rfl) (by omega)]
    · rw [lcEnd2]
      unfold bigsOf
      rw [List.map_map]
      rfl
    · intro x hx
      refine ⟨_, fun acc => ⟨rfl, ?_, fun _ => ?_⟩⟩
      · simp [mB, m2, mCall, maCons, maNil, mVar, wipeT, fAbs, mC, fPow, fInt2, fCmp]
      · simp [mCall, maCons, maNil, mVar, wipeT, fAbs]
  have hz := sizeLine_eq
  refine ⟨[Cell.lst ((bigsOf ns).map .int), Cell.lst [.cel 0, .lst ((ns ++ [5]).map .int), .int 0]], ?_, ?_, ?_⟩
  · unfold mkF startB
    have l1 : ns.length + 1 ≤ sizeLine := by omega
    simp [msCons, msRet, mLst, maCons, maNil, e1, m2, mCall, fList, lview, mVar, startU, scr, mkL, mC, fAdd, lviewM, l1, finF]
  · exact ⟨0, bigsOf ns, ns ++ [5], 0, by decide, rfl, rfl, by simp, by simp; omega, Nat.le_trans (bigsOf_len ns) h, bigsOf_pos ns, by decide, by decide⟩
  · rfl
end Mi
namespace Mi
open PySem PySem.Spec PyProof.Rows L2

theorem pdL_strs (f : U → Option PyData) (hf : ∀ i, f (.str i) = some (.str i)) : ∀ ns : List Str, pdL f (ns.map .str) = some (ns.map .str)
  | [] => rfl
  | n :: ns => by simp only [List.map_cons, pdL, hf, pdL_strs f hf ns, Option.bind_some, Option.map_some]
theorem lay_strs : ∀ ns : List Str, (∀ x ∈ ns, PyData.strOk x = true) → PyData.canLayAll0 (ns.map PyData.str) = true
  | [], _ => rfl
  | n :: ns, h => by
    simp only [List.map_cons, PyData.canLayAll0, PyData.canLay0, h n List.mem_cons_self, lay_strs ns fun x hx => h x (List.mem_cons_of_mem _ hx), Bool.and_self]
theorem eqv_strs : ∀ xs ys : List Str, PyData.eqvAll (xs.map .str) (ys.map .str) = decide (xs = ys)
  | [], [] => by simp [PyData.eqvAll]
  | [], _ :: _ => by simp [PyData.eqvAll]
  | _ :: _, [] => by simp [PyData.eqvAll]
  | x :: xs, y :: ys => by
    simp only [List.map_cons, PyData.eqvAll, PyData.eqv, eqv_strs xs ys, List.cons.injEq]
    by_cases h : x = y <;> simp [h]
theorem pd_strs {c : Cs} {u : U} {ns : List Str} (h : lview c u = some (ns.map .str)) (n : Nat) : pd (n + 2) c u = some (.list (ns.map .str)) := by
  rw [pd_l h (n + 1), pdL_strs _ fun i => rfl]; rfl
/-- two lists of texts -/
theorem fEq_strs {c : Cs} {u v : U} {xs ys : List Str} (hu : lview c u = some (xs.map .str)) (hv : lview c v = some (ys.map .str)) (h1 : ∀ x ∈ xs, PyData.strOk x = true) (h2 : ∀ x ∈ ys, PyData.strOk x = true) (neg : Bool) :
    fEq neg u v c = some (.bl (if neg then !decide (xs = ys) else decide (xs = ys)), c) := by
  rw [fEq_data hu, pd_strs hu 4, pd_strs hv 4]
  simp only [Option.bind_some, PyData.canLay0, lay_strs xs h1, lay_strs ys h2, Bool.and_self, if_true, PyData.eqv, eqv_strs]
/-- a list of texts against [] -/
theorem fEq_strs0 {c : Cs} {u : U} {xs : List Str} (hu : lview c u = some (xs.map .str)) (h1 : ∀ x ∈ xs, PyData.strOk x = true) (neg : Bool) : fEq neg u (.lst []) c = some (.bl (if neg then !xs.isEmpty else xs.isEmpty), c) := by
  rw [fEq_strs (ys := []) hu rfl h1 (by simp) neg]
  cases xs <;> simp
theorem uBls_map {α : Type} (f : α → Bool) : ∀ l : List α, uBls (l.map fun x => U.bl (f x)) = some (l.map f)
  | [] => rfl
  | x :: l => by simp only [List.map_cons, uBls, uBls_map f l, Option.map_some]
theorem fAll_map {α : Type} (f : α → Bool) (l : List α) (c : Cs) : fAll [.lst (l.map fun x => U.bl (f x))] c = some (.bl (l.all f), c) := by
  simp only [fAll, lview, Option.bind_some, uBls_map, Option.map_some, List.all_map]
  rfl
theorem frzL_id {f : U → Cs → Option (U × Cs)} {xs : List U} {c : Cs} (h : ∀ x ∈ xs, f x c = some (x, c)) : frzL f xs c = some (xs, c) := by
  induction xs with
  | nil => rfl
  | cons x xs ih =>
    simp only [frzL, h x List.mem_cons_self, Option.bind_some, ih fun y hy => h y (List.mem_cons_of_mem _ hy), Option.map_some]
theorem frz_str (k : Nat) (s : Str) (c : Cs) : frz k (.str s) c = some (.str s, c) := by cases k <;> rfl
theorem frz_int (k : Nat) (s : Int) (c : Cs) : frz k (.int s) c = some (.int s, c) := by cases k <;> rfl
theorem frz_bl (k : Nat) (s : Bool) (c : Cs) : frz k (.bl s) c = some (.bl s, c) := by cases k <;> rfl
theorem frz_non (k : Nat) (c : Cs) : frz k .non c = some (.non, c) := by cases k <;> rfl
theorem frz_lst (k : Nat) (xs : List U) (c : Cs) : frz k (.lst xs) c = some (.lst xs, c) := by cases k <;> rfl
theorem frz_obj (k : Nat) (C : Nat) (ns : List Str) (xs : List U) (c : Cs) : frz k (.obj C ns xs) c = some (.obj C ns xs, c) := by cases k <;> rfl
theorem take_app (c c' : Cs) : (c ++ c').take c.length = c := by simp
theorem at_end (c : Cs) (x : Cell) : (c ++ [x])[c.length]? = some x := by rw [List.getElem?_append_right (Nat.le_refl _)]; simp
theorem set_end (c : Cs) (x y : Cell) : (c ++ [x]).set c.length y = c ++ [y] := by rw [List.set_append_right _ _ (Nat.le_refl _)]; simp
/-- a text, a number .. handed back, the cells as they were -/
theorem fin_plain {c : Cs} {u : U} (hf : ∀ k c, frz k u c = some (u, c)) (hn : noCel u = true) : finF true c (.ret u c) = .ok u c := by
  simp [finF, hf, hn]
/-- a list of texts that the def has made is handed back -/
theorem fin_strs {c : Cs} {xs : List U} (hx : ∀ x ∈ xs, ∀ c, frz 5 x c = some (x, c)) (hn : noCels xs = true) : finF true c (.ret (.cel c.length) (c ++ [Cell.lst xs])) = .ok (.lst xs) c := by
  have : frz 6 (.cel c.length) (c ++ [Cell.lst xs]) = some (.lst xs, c ++ [Cell.dead]) := by
    unfold frz
    simp only [at_end, frzL_id fun x h => hx x h _, Option.bind_some, set_end]
  simp [finF, this, noCel, hn]

/-! ### loops and comprehensions with what they leave alone -/
theorem forL_inv {t : TT1} {body : MS} (Inv : Nat → T → Cs → Prop) : ∀ (us : List U) (i : Nat) {τ : T} {c : Cs}, (∀ j u, us[j]? = some u → ∀ τ c, Inv (i + j) τ c → ∃ τ1 τ2 c2, t u τ c = some τ1 ∧ body τ1 c = .nx τ2 c2 ∧ Inv (i + j + 1) τ2 c2) → Inv i τ c → ∃ τ' c', forL t body us τ c = .nx τ' c' ∧ Inv (i + us.length) τ' c'
  | [], i, τ, c, _, h => ⟨τ, c, rfl, h⟩
  | u :: us, i, τ, c, hs, h => by
    obtain ⟨τ1, τ2, c2, e1, e2, h2⟩ := hs 0 u rfl τ c h
    obtain ⟨τ', c', e3, h3⟩ := forL_inv Inv us (i + 1) (τ := τ2) (c := c2) (fun j x hj τ c hi => by
      have := hs (j + 1) x hj τ c (by rw [show i + (j + 1) = i + 1 + j by omega]; exact hi)
      rw [show i + 1 + j + 1 = i + (j + 1) + 1 by omega]; exact this) h2
    refine ⟨τ', c', ?_, ?_⟩
    · unfold forL
      rw [e1]
      simp only [e2]
      exact e3
    · rw [List.length_cons, show i + (us.length + 1) = i + 1 + us.length by omega]; exact h3
/-- a for whose mirror source does not change -/
theorem msFor_inv {mi : MI} {t : TT1} {body : MS} {τ : T} {c c1 : Cs} {src : Src} {xs : List U} (Inv : Nat → T → Cs → Prop) (hi : mi τ c = .ok src c1) (h : ∀ c, src c = some xs) (h0 : Inv 0 τ c1)
    (hs : ∀ j u, xs[j]? = some u → ∀ τ c, Inv j τ c → ∃ τ1 τ2 c2, t u τ c = some τ1 ∧ body τ1 c = .nx τ2 c2 ∧ Inv (j + 1) τ2 c2) : ∃ τ' c', msFor mi t body τ c = .nx τ' c' ∧ Inv xs.length τ' c' := by
  rw [msFor_const hi h]
  have := forL_inv Inv xs 0 (τ := τ) (c := c1) (fun j u hj τ c hi => by rw [Nat.zero_add] at hi ⊢; exact hs j u hj τ c hi) h0
  rw [Nat.zero_add] at this
  exact this
theorem lcGo_inv {src : Src} {t : TT1} {me : ME} {τ0 : T} {n0 : Nat} {us : List U} (Inv : Nat → List U → Cs → Prop) (hsrc : ∀ c, src c = some us) (hl : us.length ≤ 10000)
    (hs : ∀ i u, us[i]? = some u → ∀ c acc, c[n0]? = some (.lst acc) → acc.length = i → Inv i acc c → ∃ τ1 x c', t u τ0 c = some τ1 ∧ me τ1 c = .ok x c' ∧ c'[n0]? = some (.lst acc) ∧ Inv (i + 1) (acc ++ [x]) (c'.set n0 (.lst (acc ++ [x])))) :
    ∀ (k i : Nat) (acc : List U) (c : Cs), k + i = us.length → acc.length = i → c[n0]? = some (.lst acc) → Inv i acc c → ∃ acc' c', lcGo src t mtYes me τ0 n0 k i c = .ok () c' ∧ c'[n0]? = some (.lst acc') ∧ acc'.length = us.length ∧ Inv us.length acc' c'
  | 0, i, acc, c, h, ha, hc, hI => by
    have : i = us.length := by omega
    subst this
    refine ⟨acc, c, ?_, hc, ha, hI⟩
    unfold lcGo
    rw [hsrc]
    simp
  | k + 1, i, acc, c, h, ha, hc, hI => by
    have hi : i < us.length := by omega
    obtain ⟨τ1, x, c', e1, e2, e3, e4⟩ := hs i us[i] (List.getElem?_eq_getElem hi) c acc hc ha hI
    have hn : n0 < c'.length := (List.getElem?_eq_some_iff.mp e3).1
    obtain ⟨acc', c'', f1, f2, f3, f4⟩ := lcGo_inv Inv hsrc hl hs k (i + 1) (acc ++ [x]) _ (by omega) (by simp [ha]) (List.getElem?_set_self hn) e4
    refine ⟨acc', c'', ?_, f2, f3, f4⟩
    unfold lcGo
    rw [hsrc]
    simp only [List.getElem?_eq_getElem hi, e1, mtYes, bind_ok, if_true, e2, e3]
    rw [if_pos (by omega)]
    exact f1
theorem mLc1_inv {vs : List Nat} {mi : MI} {t : TT1} {me : ME} {τ : T} {c c1 : Cs} {src : Src} {us : List U} (Inv : Nat → List U → Cs → Prop) (hi : mi τ c = .ok src c1) (hsrc : ∀ c, src c = some us) (hl : us.length ≤ 10000) (h0 : Inv 0 [] (c1 ++ [Cell.lst []]))
    (hs : ∀ i u, us[i]? = some u → ∀ c acc, c[c1.length]? = some (.lst acc) → acc.length = i → Inv i acc c → ∃ τ1 x c', t u (wipeT τ vs) c = some τ1 ∧ me τ1 c = .ok x c' ∧ c'[c1.length]? = some (.lst acc) ∧ Inv (i + 1) (acc ++ [x]) (c'.set c1.length (.lst (acc ++ [x])))) :
    ∃ acc' c', mLc 1 vs mi t mtYes me τ c = .ok (.lst acc') (c'.set c1.length .dead) ∧ c'[c1.length]? = some (.lst acc') ∧ acc'.length = us.length ∧ Inv us.length acc' c' := by
  obtain ⟨acc', c', e1, e2, e3, e4⟩ := lcGo_inv (t := t) (me := me) (τ0 := wipeT τ vs) (n0 := c1.length) Inv hsrc hl hs us.length 0 [] (c1 ++ [Cell.lst []]) (by omega) rfl (at_end c1 _) h0
  refine ⟨acc', c', ?_, e2, e3, e4⟩
  unfold mLc
  rw [hi]
  simp only [bind_ok, hsrc, Option.elim_some, e1, lcEnd]
  simp [e2]
/-! ### cells apart from the state -/
theorem Sq.push {c : Cs} {s K : Nat} (h : Sq c s K) (l : Cs) : Sq (c ++ l) s K := by
  obtain ⟨a, b1, b2, k, h1, h2, h3, h4⟩ := h
  have l1 : s < c.length := (List.getElem?_eq_some_iff.mp h2).1
  have l2 : a < c.length := (List.getElem?_eq_some_iff.mp h3).1
  exact ⟨a, b1, b2, k, h1, by rw [List.getElem?_append_left l1]; exact h2, by rw [List.getElem?_append_left l2]; exact h3, h4⟩
theorem Sq.put {c : Cs} {s K n : Nat} (h : Sq c s K) (hn : n ≠ s) (ho : ¬ owned c s n) (x : Cell) : Sq (c.set n x) s K := by
  obtain ⟨a, b1, b2, k, h1, h2, h3, h4⟩ := h
  have : n ≠ a := fun e => ho ⟨_, e ▸ h2⟩
  exact ⟨a, b1, b2, k, h1, by rw [List.getElem?_set_ne hn]; exact h2, by rw [List.getElem?_set_ne this]; exact h3, h4⟩
theorem Sq.new {c : Cs} {s K : Nat} (h : Sq c s K) (l : Cs) {n : Nat} (hn : c.length ≤ n) : n ≠ s ∧ ¬ owned (c ++ l) s n := by
  obtain ⟨a, b1, b2, k, h1, h2, h3, h4⟩ := h
  have l1 : s < c.length := (List.getElem?_eq_some_iff.mp h2).1
  have l2 : a < c.length := (List.getElem?_eq_some_iff.mp h3).1
  refine ⟨by omega, fun ⟨xs, e⟩ => ?_⟩
  rw [List.getElem?_append_left l1, h2] at e
  cases e; omega
theorem owned_put {c : Cs} {s n i : Nat} {x : Cell} (hn : n ≠ s) (h : owned (c.set n x) s i) : owned c s i := by
  obtain ⟨xs, e⟩ := h
  rw [List.getElem?_set_ne hn] at e
  exact ⟨xs, e⟩
theorem Frm.push {s : Nat} {c c1 : Cs} (h : Frm s c c1) (hs : s < c1.length) (l : Cs) : Frm s c (c1 ++ l) := by
  refine ⟨by rw [List.length_append]; have := h.le; omega, fun i hi ⟨xs, e⟩ => ?_, fun i hi hn ho => ?_⟩
  · rw [List.getElem?_append_left hs] at e
    exact h.own i hi ⟨xs, e⟩
  · rw [List.getElem?_append_left (Nat.lt_of_lt_of_le hi h.le)]; exact h.keep i hi hn ho
theorem Frm.put {s n : Nat} {c c1 : Cs} (h : Frm s c c1) (hs : s < c.length) (hn : c.length ≤ n) (x : Cell) : Frm s c (c1.set n x) := by
  refine ⟨by rw [List.length_set]; exact h.le, fun i hi o => h.own i hi (owned_put (by omega) o), fun i hi hi2 ho => ?_⟩
  rw [List.getElem?_set_ne (by omega)]; exact h.keep i hi hi2 ho
/-! ### drawing -/
theorem fn_draw {A B C D : Int} (hA : Small A) (hB : Small B) (hC : Small C) (hD : Small D) {τ : T} {c c1 : Cs} {s K : Nat} {size : Int} {me : ME} (h0 : τ[0]? = some (some (.cel s))) (he : me τ c = .ok (.int size) c1) (hS : Sq c1 s K) (hK : K < 1000000) (hp : 0 < size) (hz : size < 1000000) :
    ∃ d c', mFn (mkF false 5 (drawB A B C D)) [] (maCons (mVar 0) (maCons me maNil)) τ c = .ok (.int d) c' ∧ 0 ≤ d ∧ d < size ∧ Sq c' s (K + 1) ∧ Frm s c1 c' := by
  obtain ⟨d, c', h1, h2⟩ := draw_ok hA hB hC hD hS hK hp (by
    have := log2_small (x := size) (natAbs_lt_64 (by omega) (by omega)); omega)
  refine ⟨d, c', ?_, h2⟩
  simp only [mFn, maCons, maNil, mVar, h0, bind_ok, he, List.append_nil, h1]
theorem lst_pick {τ : T} {c c' : Cs} {ms : MA} {md : ME} {d : Int} {xs : List U} (hx : ms τ c = .ok xs c) (hl : xs.length ≤ 10000) (hd : md τ c = .ok (.int d) c') (h0 : 0 ≤ d) (h1 : d < xs.length) :
    ∃ u ∈ xs, m2 fIx (mLst false ms) md τ c = .ok u c' := by
  obtain ⟨j, rfl⟩ : ∃ j : Nat, d = (j : Int) := ⟨d.toNat, by omega⟩
  have hj : j < xs.length := by omega
  refine ⟨xs[j], List.getElem_mem hj, ?_⟩
  simp only [m2, mLst, hx, bind_ok, hl, if_true, mkL, Bool.false_eq_true, if_false, ofO_some, hd, fIx, lview, Option.bind_some, atI_nat (List.getElem?_eq_getElem hj), Option.map_some]
/-- a sign of a text -/
theorem str_pick {s : Str} {d : Int} (h0 : 0 ≤ d) (h1 : d < s.length) (hs : s.length ≤ 10000) (c : Cs) : ∃ k ∈ s.cps.toList, fIx (.str s) (.int d) c = some (.str ⟨#[k]⟩, c) := by
  obtain ⟨j, rfl⟩ : ∃ j : Nat, d = (j : Int) := ⟨d.toNat, by omega⟩
  have hj : j < s.cps.toList.length := by rw [Array.length_toList]; unfold Str.length at h1; omega
  have hz := sizeLine_eq
  refine ⟨s.cps.toList[j], List.getElem_mem hj, ?_⟩
  have l : s.length ≤ sizeLine := by omega
  simp only [fIx, l, if_true, atI_nat (List.getElem?_eq_getElem hj), Option.map_some]
end Mi
namespace Mi
open PySem PySem.Spec PyProof.Rows L2

def Ok {α : Type} (r : R α) (P : α → Cs → Prop) : Prop := match r with
  | .ok a c => P a c
  | _ => False
def Sx (r : RS) (N : T → Cs → Prop) (Z : U → Cs → Prop) : Prop := match r with
  | .nx τ c => N τ c
  | .ret u c => Z u c
  | _ => False
section
variable {α β : Type} {P : α → Cs → Prop} {N : T → Cs → Prop} {Z : U → Cs → Prop}
theorem ok_ok (a : α) (c : Cs) : Ok (.ok a c) P = P a c := rfl
theorem ok_ofO (a : α) (c : Cs) : Ok (ofO (some (a, c))) P = P a c := rfl
theorem ok_bind (r : R β) (k : β → Cs → R α) : Ok (r.bind k) P = Ok r (fun b c => Ok (k b c) P) := by cases r <;> rfl
theorem sx_bindS (r : R β) (τ : T) (k : β → Cs → RS) : Sx (r.bindS τ k) N Z = Ok r (fun b c => Sx (k b c) N Z) := by cases r <;> rfl
theorem sx_nx (τ : T) (c : Cs) : Sx (.nx τ c) N Z = N τ c := rfl
theorem sx_ret (u : U) (c : Cs) : Sx (.ret u c) N Z = Z u c := rfl
theorem sx_seq (r : RS) (k : T → Cs → RS) : Sx (r.seq k) N Z = Sx r (fun τ c => Sx (k τ c) N Z) Z := by cases r <;> rfl
theorem ok_imp {r : R α} {P' : α → Cs → Prop} (h : Ok r P) (i : ∀ a c, P a c → P' a c) : Ok r P' := by
  cases r with
  | ok a c => exact i a c h
  | _ => exact h.elim
theorem sx_imp {r : RS} {N' : T → Cs → Prop} {Z' : U → Cs → Prop} (h : Sx r N Z) (i : ∀ τ c, N τ c → N' τ c) (j : ∀ u c, Z u c → Z' u c) : Sx r N' Z' := by
  cases r with
  | nx τ c => exact i τ c h
  | ret u c => exact j u c h
  | _ => exact h.elim
theorem ok_ex {r : R α} (h : Ok r P) : ∃ a c, r = .ok a c ∧ P a c := by
  cases r with
  | ok a c => exact ⟨a, c, rfl, h⟩
  | _ => exact h.elim
theorem sx_ex {r : RS} (h : Sx r N fun _ _ => False) : ∃ τ c, r = .nx τ c ∧ N τ c := by
  cases r with
  | nx a c => exact ⟨a, c, rfl, h⟩
  | _ => exact h.elim
theorem ok_of {r : R α} {a : α} {c : Cs} (h : r = .ok a c) (p : P a c) : Ok r P := by rw [h]; exact p
theorem sx_of {r : RS} {τ : T} {c : Cs} (h : r = .nx τ c) (p : N τ c) : Sx r N Z := by rw [h]; exact p
theorem ok_fin {c : Cs} {r : RS} {P : U → Cs → Prop} (h : Sx r (fun _ c' => P .non c') P) : Ok (finF false c r) P := by
  cases r with
  | nx τ c' => exact h
  | ret u c' => exact h
  | _ => exact h.elim
theorem ok_fn {n : Nat} {B : MS} {us : List U} {c : Cs} {P : U → Cs → Prop} (h : Sx (B (startU n us) c) (fun _ c' => P .non c') P) : Ok (mkF false n B us c) P := ok_fin h
/-- a def whose own cells are forgotten -/
theorem ok_fnT {n : Nat} {B : MS} {us : List U} {c : Cs} {P : U → Cs → Prop} (h : Sx (B (startU n us) c) (fun _ c' => P .non c ∧ c'.take c.length = c) fun u c' => (∀ k c, frz k u c = some (u, c)) ∧ noCel u = true ∧ P u c ∧ c'.take c.length = c) : Ok (mkF true n B us c) P := by
  unfold mkF
  revert h
  cases B (startU n us) c with
  | nx τ c' =>
    intro h
    have h : P .non c ∧ c'.take c.length = c := h
    simp only [finF, if_true, frz_non, noCel, h.2, and_self, ok_ok]
    exact h.1
  | ret u c' =>
    intro ⟨h1, h2, h3, h4⟩
    simp only [finF, if_true, h1, h2, h4, and_self, ok_ok]
    exact h3
  | _ => exact fun h => h.elim
/-! loops -/
theorem sx_for {mi : MI} {t : TT1} {body : MS} {τ : T} {c : Cs} (xs : List U) (Inv : Nat → T → Cs → Prop) (hi : Ok (mi τ c) fun src c1 => (∀ c, src c = some xs) ∧ Inv 0 τ c1)
    (hs : ∀ j u, xs[j]? = some u → ∀ τ c, Inv j τ c → ∃ τ1, t u τ c = some τ1 ∧ Sx (body τ1 c) (Inv (j + 1)) fun _ _ => False) (hN : ∀ τ c, Inv xs.length τ c → N τ c) : Sx (msFor mi t body τ c) N Z := by
  obtain ⟨src, c1, e1, e2, e3⟩ := ok_ex hi
  obtain ⟨τ', c', e4, e5⟩ := msFor_inv (t := t) (body := body) Inv e1 e2 e3 fun j u hj τ c h => by
    obtain ⟨τ1, f1, f2⟩ := hs j u hj τ c h
    obtain ⟨τ2, c2, f3, f4⟩ := sx_ex f2
    exact ⟨τ1, τ2, c2, f1, f3, f4⟩
  exact sx_of e4 (hN _ _ e5)
theorem ok_lc1 {vs : List Nat} {mi : MI} {t : TT1} {me : ME} {τ : T} {c c1 : Cs} {P : U → Cs → Prop} (us : List U) (Inv : Nat → List U → Cs → Prop) {src : Src} (hi : mi τ c = .ok src c1) (hsrc : ∀ c, src c = some us) (hl : us.length ≤ 10000) (h0 : Inv 0 [] (c1 ++ [Cell.lst []]))
    (hs : ∀ i u, us[i]? = some u → ∀ c acc, c[c1.length]? = some (.lst acc) → acc.length = i → Inv i acc c → ∃ τ1, t u (wipeT τ vs) c = some τ1 ∧ Ok (me τ1 c) fun x c' => c'[c1.length]? = some (.lst acc) ∧ Inv (i + 1) (acc ++ [x]) (c'.set c1.length (.lst (acc ++ [x]))))
    (hP : ∀ acc c', c'[c1.length]? = some (.lst acc) → acc.length = us.length → Inv us.length acc c' → P (.lst acc) (c'.set c1.length .dead)) : Ok (mLc 1 vs mi t mtYes me τ c) P := by
  obtain ⟨acc, c', e1, e2, e3, e4⟩ := mLc1_inv (t := t) (me := me) (τ := τ) (c := c) (vs := vs) Inv hi hsrc hl h0 fun i u hu c acc hc ha h => by
    obtain ⟨τ1, f1, f2⟩ := hs i u hu c acc hc ha h
    obtain ⟨x, c', f3, f4⟩ := ok_ex f2
    exact ⟨τ1, x, c', f1, f3, f4⟩
  exact ok_of e1 (hP acc c' e2 e3 e4)
theorem sx_forM {mi : MI} {t : TT1} {body : MS} {τ : T} {c : Cs} (hi : Ok (mi τ c) fun src c1 => ∃ xs, (∀ c, src c = some xs) ∧ Sx (forL t body xs τ c1) N Z) : Sx (msFor mi t body τ c) N Z := by
  obtain ⟨src, c1, e1, xs, e2, e3⟩ := ok_ex hi
  rw [msFor_const e1 e2]; exact e3
theorem sx_forL {t : TT1} {body : MS} {τ : T} {c : Cs} {xs : List U} (Inv : Nat → T → Cs → Prop) (h0 : Inv 0 τ c)
    (hs : ∀ j u, xs[j]? = some u → ∀ τ c, Inv j τ c → ∃ τ1, t u τ c = some τ1 ∧ Sx (body τ1 c) (Inv (j + 1)) fun _ _ => False) (hN : ∀ τ c, Inv xs.length τ c → N τ c) : Sx (forL t body xs τ c) N Z := by
  obtain ⟨τ', c', e4, e5⟩ := forL_inv (t := t) (body := body) Inv xs 0 (fun j u hj τ c h => by
    rw [Nat.zero_add] at h ⊢
    obtain ⟨τ1, f1, f2⟩ := hs j u hj τ c h
    obtain ⟨τ2, c2, f3, f4⟩ := sx_ex f2
    exact ⟨τ1, τ2, c2, f1, f3, f4⟩) h0
  rw [Nat.zero_add] at e5
  exact sx_of e4 (hN _ _ e5)
theorem ok_rng1 {ms : MA} {τ : T} {c : Cs} {P : Src → Cs → Prop} (h : Ok (ms τ c) fun us c1 => ∃ n : Int, us = [.int n] ∧ 0 ≤ n ∧ n ≤ 1000000 ∧ P (fun _ => some (ranged 0 n.toNat)) c1) : Ok (miRng1 ms τ c) P := by
  obtain ⟨us, c1, e, n, rfl, h0, h1, hp⟩ := ok_ex h
  unfold miRng1
  rw [e]
  simp only [bind_ok]
  rw [if_pos (by omega)]
  exact hp
theorem ok_listC {m : ME} {τ : T} {c : Cs} {P : Src → Cs → Prop} (h : Ok (m τ c) fun u c1 => ∃ xs, u = .lst xs ∧ P (fun _ => some xs) c1) : Ok (miList m τ c) P := by
  obtain ⟨us, c1, e, xs, rfl, hp⟩ := ok_ex h
  unfold miList
  rw [e]
  exact hp
/-! drawing -/
theorem ok_draw {A B C D : Int} (hA : Small A) (hB : Small B) (hC : Small C) (hD : Small D) {c : Cs} {s K : Nat} {size : Int} {P : U → Cs → Prop} (hS : Sq c s K) (hK : K < 1000000) (hp : 0 < size) (hz : size < 1000000)
    (h : ∀ d c', 0 ≤ d → d < size → Sq c' s (K + 1) → Frm s c c' → P (.int d) c') : Ok (mkF false 5 (drawB A B C D) [.cel s, .int size] c) P := by
  obtain ⟨d, c', h1, h2, h3, h4, h5⟩ := draw_ok hA hB hC hD hS hK hp (by
    have := log2_small (x := size) (natAbs_lt_64 (by omega) (by omega)); omega)
  exact ok_of h1 (h d c' h2 h3 h4 h5)
theorem ok_ixl {xs : List U} {d : Int} {c : Cs} {P : U → Cs → Prop} (h0 : 0 ≤ d) (h1 : d < xs.length) (h : ∀ u ∈ xs, P u c) : Ok (ofO (fIx (.lst xs) (.int d) c)) P := by
  obtain ⟨j, rfl⟩ : ∃ j : Nat, d = (j : Int) := ⟨d.toNat, by omega⟩
  have hj : j < xs.length := by omega
  simp only [fIx, lview, Option.bind_some, atI_nat (List.getElem?_eq_getElem hj), Option.map_some, ok_ofO]
  exact h _ (List.getElem_mem hj)
theorem ok_ixs {s : Str} {d : Int} {c : Cs} {P : U → Cs → Prop} (h0 : 0 ≤ d) (h1 : d < s.length) (hs : s.length ≤ 10000) (h : ∀ k ∈ s.cps.toList, P (.str ⟨#[k]⟩) c) : Ok (ofO (fIx (.str s) (.int d) c)) P := by
  obtain ⟨k, h2, h3⟩ := str_pick h0 h1 hs c
  rw [h3]
  exact h k h2
end
end Mi
namespace Mi
open PySem PySem.Spec PyProof.Rows L2

theorem HRel.junk {g : Gc} {w : Wd} {c : Cs} {H : Hp} {d : Addr} {o : HO} (h : HRel g w c H) (hd : H d = none) : HRel g w c (upd H d o) := by
  have ne : ∀ a u, H a = some u → a ≠ d := fun a u e z => by subst z; rw [hd] at e; cases e
  refine ⟨fun a u e => ?_, fun i cl e => ?_, h.out, h.inj, h.xv, h.xn⟩
  · have q := h.fz a u e
    rw [upd_ne (ne a u q)]; exact q
  · obtain ⟨a, e1, k, f⟩ := h.cel i cl e
    obtain ⟨u, q⟩ := k.there h.fz
    exact ⟨a, e1, k.step (Ext.refl w) (upd_ne (ne a u q)), f⟩
/-- an instance, kept or changing -/
def oview (c : Cs) : U → Option (Nat × List Str × List U)
  | .obj C ns xs => some (C, ns, xs)
  | .cel n => match c[n]? with
    | some (.ins C ns xs) => some (C, ns, xs)
    | _ => none
  | _ => none
theorem oview_ok {g : Gc} {w : Wd} {c : Cs} {H : Hp} {u : U} {v : V} {C : Nat} {ns : List Str} {xs : List U} (hh : HRel g w c H) (r : UV g w u v) (e : oview c u = some (C, ns, xs)) :
    ∃ a dx vs, v = .ref a ∧ H a = some (.ins (g.cls C) dx (ns.zip vs)) ∧ ns.length = vs.length ∧ UVs g w xs vs := by
  cases u with
  | obj C' ns' xs' =>
    cases e
    obtain ⟨a, dx, vs, e1, q, l, rr⟩ := r
    exact ⟨a, dx, vs, e1, hh.fz _ _ q, l, rr⟩
  | cel n =>
    obtain ⟨a, e1, rfl⟩ := r
    unfold oview at e
    dsimp only at e
    split at e
    · rename_i q
      cases e
      obtain ⟨a', e2, ⟨dx, vs, h1, h2, h3⟩, _⟩ := hh.cel n _ q
      rw [e1] at e2; cases e2
      exact ⟨a, dx, vs, rfl, h1, h2, h3⟩
    · cases e
  | _ => cases e
/-- the place of an attribute -/
def ixF (f : Str) : List Str → Option Nat
  | [] => none
  | n :: r => if n = f then some 0 else (ixF f r).map (· + 1)
theorem look_zip {α : Type} {f : Str} : ∀ {ns : List Str} {vs : List α}, ns.length = vs.length → (ns.zip vs).lookup f = (ixF f ns).bind fun i => vs[i]?
  | [], _, _ => rfl
  | n :: ns, v :: vs, h => by
    have ih := look_zip (f := f) (ns := ns) (vs := vs) (by simpa using h)
    rw [List.zip_cons_cons, List.lookup_cons]
    unfold ixF
    by_cases hn : n = f
    · subst hn; simp
    · have hb : (f == n) = false := beq_eq_false_iff_ne.mpr (Ne.symm hn)
      rw [hb, if_neg hn, ih]
      cases ixF f ns <;> simp
def putU (f : Str) (u : U) : List Str → List U → List U
  | n :: ns, x :: xs => if n = f then u :: xs else x :: putU f u ns xs
  | _, xs => xs ++ [u]
def putN (f : Str) (ns : List Str) : List Str := if (ixF f ns).isSome then ns else ns ++ [f]
theorem putF_zip {f : Str} {v : V} : ∀ {ns : List Str} {vs : List V}, ns.length = vs.length → ∃ vs', putF f v (ns.zip vs) = (putN f ns).zip vs' ∧ (putN f ns).length = vs'.length ∧
    ∀ {g : Gc} {w : Wd} {u : U} {xs : List U}, UV g w u v → UVs g w xs vs → UVs g w (putU f u ns xs) vs'
  | [], [], _ => ⟨[v], rfl, rfl, fun {g w u xs} r rs => by
    cases xs with
    | nil => exact UVs.one r
    | cons x xs => obtain ⟨_, _, e, _⟩ := rs; cases e⟩
  | n :: ns, v' :: vs, h => by
    obtain ⟨vs', e1, e2, e3⟩ := putF_zip (f := f) (v := v) (ns := ns) (vs := vs) (by simpa using h)
    by_cases hn : n = f
    · refine ⟨v :: vs, ?_, ?_, fun {g w u xs} r rs => ?_⟩
      · subst hn
        simp [putN, ixF, putF]
      · simp [putN, ixF, hn] at h ⊢; exact h
      · cases xs with
        | nil => cases (show _ = [] from rs)
        | cons x xs =>
          obtain ⟨v0, r0, e, q, t⟩ := rs
          cases e
          simp only [putU, hn, if_true]
          exact ⟨v, vs, rfl, r, t⟩
    · have hN : putN f (n :: ns) = n :: putN f ns := by
        unfold putN
        rw [ixF, if_neg hn]
        cases ixF f ns <;> simp
      refine ⟨v' :: vs', ?_, ?_, fun {g w u xs} r rs => ?_⟩
      · rw [hN, List.zip_cons_cons, List.zip_cons_cons, ← e1]
        simp [putF, hn]
      · rw [hN, List.length_cons, List.length_cons, e2]
      · cases xs with
        | nil => cases (show _ = [] from rs)
        | cons x xs =>
          obtain ⟨v0, r0, e, q, t⟩ := rs
          cases e
          simp only [putU, hn, if_false]
          exact ⟨v', vs', rfl, q, e3 r t⟩
section
variable {X : Cx} {g : Gc} {Wx : WX} {k j : Nat} {ps : List Str} {dus : List U} {Fm : List U → Cs → R U} {x m f : Str} {p pos apos pos' : Pos} {e o : Expr} {es : List Expr} {ms : MA} {mo mv : ME} {C : Nat}
/-! ### attributes -/
def mFld (cs : List Nat) (f : Str) (m : ME) : ME := fun τ c => (m τ c).bind fun u c1 => match oview c1 u with
  | some (C, ns, xs) => if C ∈ cs then (match (ixF f ns).bind fun i => xs[i]? with | some z => .ok z c1 | none => .bad) else .bad
  | none => .bad
theorem de_fld {cs : List Nat} (hK : X.K = g.K) (hc : ∀ C ∈ cs, Cls X.K (g.cls C) ∧ NoAttr X.K (g.cls C) f) (he : DE X g Wx e mo) (hb : attributeBase e f X.env (eval e X.env) = eval e X.env := by rfl) : DE X g Wx (.Attribute e f pos) (mFld cs f mo) :=
  pe_imp (pe_fld he hb) fun σ H Q ⟨w, τ, c, hs, hh, q⟩ => rd_bind q hs hh fun u c1 w1 v H1 e1 h1 r1 s1 q1 => by
    cases eo : oview c1 u with
    | none => rw [eo] at q1; exact q1.elim
    | some t =>
      obtain ⟨C, ns, xs⟩ := t
      rw [eo] at q1
      dsimp only at q1
      split at q1
      · rename_i hC
        obtain ⟨a, dx, vs, rfl, ha, hl, rs⟩ := oview_ok h1 r1 eo
        cases ei : ixF f ns with
        | none => rw [ei] at q1; exact q1.elim
        | some i =>
          rw [ei] at q1
          simp only [Option.bind_some] at q1
          cases ex : xs[i]? with
          | none => rw [ex] at q1; exact q1.elim
          | some z =>
            rw [ex] at q1
            obtain ⟨v, ev, rv⟩ := rs.get ex
            refine ⟨a, g.cls C, dx, _, v, rfl, ha, (hc C hC).1, (hc C hC).2, ?_, Post.here q1 h1 rv⟩
            rw [look_zip hl, ei]; exact ev
      · exact q1.elim
def msFld (cs : List Nat) (f : Str) (mo mv : ME) : MS := fun τ c => (mv τ c).bindS τ fun v c1 => (mo τ c1).bindS τ fun u c2 => match u with
  | .cel n => match c2[n]? with
    | some (.ins C ns xs) => if C ∈ cs ∧ ns.length < 900 then .nx τ (c2.set n (.ins C (putN f ns) (putU f v ns xs))) else .bad
    | _ => .bad
  | _ => .bad
theorem ds_fld {cs : List Nat} (hc : ∀ C ∈ cs, Cls X.K (g.cls C) ∧ NoAttr X.K (g.cls C) f) (ha : DE X g Wx o mo) (hv : DE X g Wx e mv) (hs : swapsWith e (some (.Attribute o f pos')) pos.line X.env = pure false := by rfl) : DS X g Wx (.Assign [.Attribute o f pos'] e pos) (msFld cs f mo mv) :=
  ps_imp (ps_fld ha hv hs) fun D σ H ⟨w, τ, c, hs, hh, q⟩ => rd_bindS q hs hh fun vu c1 w1 v H1 e1 h1 r1 s1 q1 => rd_bindS q1 s1 h1 fun u c2 w2 o H2 e2 h2 r2 s2 q2 => by
    split at q2
    · rename_i n
      split at q2
      · rename_i C ns xs hcell
        split at q2
        · rename_i hC
          obtain ⟨a, ea, ⟨dx, vs, hH, hl, rs⟩, _⟩ := h2.cel n _ hcell
          obtain ⟨a', ea', rfl⟩ := r2
          rw [ea] at ea'; cases ea'
          obtain ⟨vs', p1, p2, p3⟩ := putF_zip (f := f) (v := v) hl
          refine ⟨a, g.cls C, dx, ns.zip vs, rfl, hH, (hc C hC.1).1, (hc C hC.1).2, by rw [List.length_zip]; omega, ?_⟩
          rw [p1]
          exact q2 w2 σ _ (Ext.refl w2) (h2.setC hcell rfl ea rfl ⟨dx, vs', upd_same, p2, p3 (r1.up e2) rs⟩) s2
        · exact q2.elim
      · exact q2.elim
    · exact q2.elim
end
end Mi
namespace Mi
open PySem PySem.Spec PyProof.Rows L2

/-- a def that is reached otherwise than by a global name; dus: the defaults that fill up -/
structure OwnF (P : Program) (w : World) (K : PySem.W.Frag) (mg : Str → Option Value) (base : Heap) (g : Gc) (k : Nat) (at_ : Addr → Prop) (ps : List Str) (dus : List U) (Fm : List U → Cs → R U) : Prop where
  ex : ∃ (f : Addr) (fd : FuncData) (ds : List Value) (dvs : List V), at_ f ∧ FnG P w K mg base k f fd ps (SpF g ps.length Fm) ∧ PySem.W.isFn K (.ref f) = true ∧ PySem.W.keepIn K (.ref f) = true ∧ Vals dvs ds ∧ (∀ w, UVs g w dus dvs) ∧ Binds K fd ps ds
/-- .. by a name of the class -/
abbrev InC (K : PySem.W.Frag) (C : Addr) (m : Str) : Addr → Prop := fun f => PySem.W.findIn K (.ref C) m = some (some (.ref f))
theorem upd_cut {g : Gc} {w w1 w2 : Wd} {c c2 : Cs} {H H1 : Hp} {n : Nat} : True := trivial
section
variable {X : Cx} {g : Gc} {Wx : WX} {k j : Nat} {ps : List Str} {dus : List U} {Fm : List U → Cs → R U} {x m f : Str} {p pos apos pos' : Pos} {e o : Expr} {es : List Expr} {ms : MA} {mo mv : ME} {C : Nat} {kws : List Keyword}
theorem MA_len {ms : MA} {n : Nat} (h : ∀ us τ c c', ms τ c = .ok us c' → us.length = n) {τ : T} {c : Cs} {w : Wd} {σ : L2.St} {H : Hp} {α : Type} {kk : List U → Cs → R α} {β : Type} {Rl : Wd → α → β → Prop} {Q : β → Hp → Prop} (hs : SR g w τ σ) (hh : HRel g w c H)
    (q : Post g w σ Wx Rl Q ((ms τ c).bind kk)) {Z : List V → Hp → Prop} (hk : ∀ us c1 w1 vs H1, us.length = n → Ext w w1 → HRel g w1 c1 H1 → UVs g w1 us vs → SR g w1 τ σ → Post g w1 σ Wx Rl Q (kk us c1) → Z vs H1) : rd g Wx (UVs g) ms σ H Z := by
  refine ⟨w, τ, c, hs, hh, ?_⟩
  revert q
  cases hms : ms τ c with
  | ok us c1 => exact fun q w1 vs H1 e1 h1 r1 => hk us c1 w1 vs H1 (h us τ c c1 hms) e1 h1 r1 (hs.up e1) (Post.up e1 q)
  | exc e c1 => exact fun q => q
  | bad => exact fun q => q
/-! ### o.m(..) -/
def mMeth (C : Nat) (m : Str) (Fm : List U → Cs → R U) (dus : List U) (mo : ME) (ms : MA) : ME := fun τ c => (mo τ c).bind fun u c1 => match oview c1 u with
  | some (C', ns, _) => if C' = C ∧ ixF m ns = none then (ms τ c1).bind fun us c2 => Fm (u :: (us ++ dus)) c2 else .bad
  | none => .bad
theorem de_meth {pl : Sem Bool} (c0 : Cls X.K (g.cls C)) (O : OwnF X.prog X.w X.K X.mg X.base g k (InC X.K (g.cls C) m) ps dus Fm) (hr : Room j X.A) (hkj : k ≤ j) (hgd : X.A.guards = some []) (tk : Takes X Wx) (he : DE X g Wx o mo) (ha : DA X g Wx (e :: es) ms)
    {n : Nat} (hn : ∀ us τ c c', ms τ c = .ok us c' → us.length = n) (hps : n + 1 + dus.length = ps.length)
    (hst : starEach (e :: es) X.env = (false, eval e X.env) :: starEach es X.env := by rfl) (hpl : (backTo pos (starEach es X.env)).any (·.1) = false := by rfl)
    (ht : eval (.Call (.Attribute o m apos) (e :: es) [] pos) X.env = (eval o X.env >>= fun ov => standAt apos.atName >>= fun _ => holding [ov] (getMethod ov m pl) >>= fun q => callWith pos q.1 q.2 (backTo pos (starEach (e :: es) X.env)) (backToKw pos (keywordEach [] X.env))) := by rfl) :
    DE X g Wx (.Call (.Attribute o m apos) (e :: es) [] pos) (mMeth C m Fm dus mo ms) := by
  obtain ⟨fa, fd, ds, dvs, hat, F, hfn, hkp, hd, hdu, hb⟩ := O.ex
  refine ⟨fun pins s σ H Q I ⟨w, τ, c, hs, hh, q⟩ => ?_⟩
  have key : rd g Wx (UV g) mo σ H fun xv H1 => ∃ a dx fs, xv = .ref a ∧ H1 a = some (.ins (g.cls C) dx fs) ∧ fs.lookup m = none ∧ rd g Wx (UVs g) ms σ H1 fun vs H2 => ∃ w2 c2 uu, HRel g w2 c2 H2 ∧ UVs g w2 uu (V.ref a :: (vs ++ dvs)) ∧ uu.length = ps.length ∧ Post g w2 σ Wx (UV g) Q (Fm uu c2) := by
    refine rd_bind q hs hh fun u c1 w1 xv H1 e1 h1 r1 s1 q1 => ?_
    cases eo : oview c1 u with
    | none => rw [eo] at q1; exact q1.elim
    | some t =>
      obtain ⟨C', ns, xs⟩ := t
      rw [eo] at q1
      dsimp only at q1
      split at q1
      · rename_i hC
        obtain ⟨rfl, hi⟩ := hC
        obtain ⟨a, dx, vs, rfl, hA, hl, rs⟩ := oview_ok h1 r1 eo
        refine ⟨a, dx, _, rfl, hA, by rw [look_zip hl, hi]; rfl, ?_⟩
        refine MA_len hn s1 h1 q1 fun us c2 w2 vs2 H2 hlen e2 h2 r2 s2 q2 => ?_
        exact ⟨w2, c2, u :: (us ++ dus), h2, ⟨_, _, rfl, r1.up e2, r2.app (hdu w2)⟩, by rw [List.length_cons, List.length_append]; omega, q2⟩
      · exact q1.elim
  refine PySem.W.methodCall_KW (pl := pl) (thn (he.run pins s σ H _ I key) fun u s1 ⟨xv, H1, I1, rx, a, dx, fs, ex, ea, l, q⟩ => ?_) ht
  subst ex
  obtain rfl : u = Value.ref a := rx
  refine getmeth_ok I1 ea c0 ⟨hat, hfn, hkp⟩ l ?_
  refine PySem.W.callWith_K (first := [.ref a]) (h₀ := X.base) I.ok.mod.kin hkp (thn (ha.run pos pins s1 σ H1 _ I1 q) fun us s2 ⟨vs, H2, I2, r, w2, c2, uu, h2, ru, hl, q2⟩ => ⟨I2.kIn, ?_⟩) hst hpl
  exact runG (bs := .ref a :: (us ++ ds)) (vs := V.ref a :: (vs ++ dvs)) F (hr.mono hkj) hgd tk I2 (fun hl => hb s2 (.ref a :: us) I2.kIn hl) (.cons rfl (r.append hd)) (by rw [← ru.length, hl]) h2 ru q2
theorem de_meth0 {pl : Sem Bool} (c0 : Cls X.K (g.cls C)) (O : OwnF X.prog X.w X.K X.mg X.base g k (InC X.K (g.cls C) m) ps dus Fm) (hr : Room j X.A) (hkj : k ≤ j) (hgd : X.A.guards = some []) (tk : Takes X Wx) (he : DE X g Wx o mo) (hps : 1 + dus.length = ps.length)
    (ht : eval (.Call (.Attribute o m apos) [] [] pos) X.env = (eval o X.env >>= fun ov => standAt apos.atName >>= fun _ => holding [ov] (getMethod ov m pl) >>= fun q => callWith pos q.1 q.2 (backTo pos (starEach [] X.env)) (backToKw pos (keywordEach [] X.env))) := by rfl) :
    DE X g Wx (.Call (.Attribute o m apos) [] [] pos) (mMeth C m Fm dus mo maNil) := by
  obtain ⟨fa, fd, ds, dvs, hat, F, hfn, hkp, hd, hdu, hb⟩ := O.ex
  refine ⟨fun pins s σ H Q I ⟨w, τ, c, hs, hh, q⟩ => ?_⟩
  have key : rd g Wx (UV g) mo σ H fun xv H1 => ∃ a dx fs, xv = .ref a ∧ H1 a = some (.ins (g.cls C) dx fs) ∧ fs.lookup m = none ∧ ∃ w2 c2 uu, HRel g w2 c2 H1 ∧ UVs g w2 uu (V.ref a :: dvs) ∧ uu.length = ps.length ∧ Post g w2 σ Wx (UV g) Q (Fm uu c2) := by
    refine rd_bind q hs hh fun u c1 w1 xv H1 e1 h1 r1 s1 q1 => ?_
    cases eo : oview c1 u with
    | none => rw [eo] at q1; exact q1.elim
    | some t =>
      obtain ⟨C', ns, xs⟩ := t
      rw [eo] at q1
      dsimp only at q1
      split at q1
      · rename_i hC
        obtain ⟨rfl, hi⟩ := hC
        obtain ⟨a, dx, vs, rfl, hA, hl, rs⟩ := oview_ok h1 r1 eo
        exact ⟨a, dx, _, rfl, hA, by rw [look_zip hl, hi]; rfl, w1, c1, u :: ([] ++ dus), h1, ⟨_, _, rfl, r1, hdu w1⟩, by rw [List.length_cons, List.nil_append]; omega, q1⟩
      · exact q1.elim
  refine PySem.W.methodCall_KW (pl := pl) (thn (he.run pins s σ H _ I key) fun u s1 ⟨xv, H1, I1, rx, a, dx, fs, ex, ea, l, q⟩ => ?_) ht
  subst ex
  obtain rfl : u = Value.ref a := rx
  obtain ⟨w2, c2, uu, h2, ru, hl, q2⟩ := q
  refine getmeth_ok I1 ea c0 ⟨hat, hfn, hkp⟩ l ?_
  exact PySem.W.callWith_K0 (first := [.ref a]) I1.kIn hkp (runG (bs := .ref a :: ds) (vs := V.ref a :: dvs) F (hr.mono hkj) hgd tk I1 (fun hl => hb s1 [.ref a] I1.kIn hl) (.cons rfl hd) (by rw [← ru.length, hl]) h2 ru q2)
end
/-! ### C(..) -/
open Classical in
/-- a new instance; mode 0: kept, the cells as they were; 2: a cell -/
noncomputable def mkI (mode : Nat) (C : Nat) (Fi : List U → Cs → R U) (us : List U) (c1 : Cs) : R U := match Fi (.cel c1.length :: us) (c1 ++ [.ins C [] []]) with
  | .ok .non c2 => if mode = 2 then .ok (.cel c1.length) c2 else (match c2[c1.length]? with
    | some (.ins C' ns xs) => if noCels xs = true ∧ c2.take c1.length = c1 then .ok (.obj C' ns xs) c1 else .bad
    | _ => .bad)
  | .exc e c2 => if mode = 2 then .exc e c2 else if noCels e.xs = true ∧ c2.take c1.length = c1 then .exc e c1 else .bad
  | _ => .bad
noncomputable def mMake (mode : Nat) (C : Nat) (Fi : List U → Cs → R U) (dus : List U) (ms : MA) : ME := fun τ c => (ms τ c).bind fun us c1 => mkI mode C Fi (us ++ dus) c1
theorem XV.cut {g : Gc} {w : Wd} {n : Nat} {H : Hp} {e : Ex} {cls : Value} {d : Option Addr} (h : noCels e.xs = true) (x : XV g w H e cls d) : XV g (Mi.cut w n) H e cls d := by
  refine ⟨x.1, ?_⟩
  rcases x.2 with z | ⟨da, vs, e1, e2, e3, e4⟩
  · exact .inl z
  · exact .inr ⟨da, vs, e1, e2, e3, UVs.cut h e4⟩
section
variable {X : Cx} {g : Gc} {Wx : WX} {k j : Nat} {ps : List Str} {dus : List U} {Fm : List U → Cs → R U} {x m f : Str} {p pos apos pos' : Pos} {e o : Expr} {es : List Expr} {ms : MA} {mo mv : ME} {C : Nat} {kws : List Keyword}
/-- the new one behind its __init__ -/
theorem mkI_ok {mode : Nat} {w : Wd} {c : Cs} {H : Hp} {σ : L2.St} {Q : VK} {us : List U} {vs : List V} (hh : HRel g w c H) (r : UVs g w us vs) (q : Post g w σ Wx (UV g) Q (mkI mode C Fm us c)) {a dx : Addr} (ha : H a = none) (hd : H dx = none) (hne : dx ≠ a) :
    ∃ w2 c2 uu, HRel g w2 c2 (upd (upd H dx (.own a)) a (.ins (g.cls C) dx [])) ∧ UVs g w2 uu (V.ref a :: vs) ∧ uu.length = us.length + 1 ∧ Post g w2 σ Wx (UV g) (fun v H2 => v = .non ∧ Q (.ref a) H2) (Fm uu c2) := by
  have hj := hh.junk (o := .own a) hd
  have ha2 : upd H dx (.own a) a = none := by rw [upd_ne (Ne.symm hne)]; exact ha
  obtain ⟨h1, e1⟩ := hj.newC (o := .ins (g.cls C) dx []) (cl := .ins C [] []) ha2 rfl fun w' e => ⟨dx, [], upd_same, rfl, rfl⟩
  generalize hw : (⟨fun j => if j = c.length then some a else w.ρ j, w.fz, w.ex⟩ : Wd) = wa at h1 e1
  have hρ : wa.ρ c.length = some a := by subst hw; exact if_pos rfl
  refine ⟨wa, _, .cel c.length :: us, h1, ⟨_, _, rfl, ⟨a, hρ, rfl⟩, r.up e1⟩, by simp, ?_⟩
  unfold mkI at q
  revert q
  cases Fm (.cel c.length :: us) (c ++ [.ins C [] []]) with
  | bad => exact fun q => q.elim
  | exc e c2 =>
    intro q w2 cls d H2 e2 h2 xv
    dsimp only at q
    split at q
    · exact q w2 cls d H2 (e1.trans e2) h2 xv
    · split at q
      · rename_i kk
        obtain ⟨h3, x3⟩ := hh.cut (e1.trans e2) h2 kk.2
        exact q _ cls d H2 x3 h3 (xv.cut kk.1)
      · exact q.elim
  | ok u c2 =>
    cases u with
    | non =>
      intro q w2 v H2 e2 h2 rv
      refine ⟨rv, ?_⟩
      dsimp only at q
      split at q
      · exact q w2 (.ref a) H2 (e1.trans e2) h2 ⟨a, e2.ρ _ _ hρ, rfl⟩
      · split at q
        · rename_i C' ns xs hcell
          split at q
          · rename_i kk
            obtain ⟨a', ea, ⟨dx', vs', hH, hl, rs⟩, _⟩ := h2.cel _ _ hcell
            rw [e2.ρ _ _ hρ] at ea; cases ea
            obtain ⟨h3, x3⟩ := h2.freeze hcell rfl (e2.ρ _ _ hρ) hH
            have ht : (c2.set c.length Cell.dead).take c.length = c := by
              rw [List.take_set_of_le (Nat.le_refl _)]; exact kk.2
            obtain ⟨h4, x4⟩ := hh.cut ((e1.trans e2).trans x3) h3 ht
            exact q _ (.ref a) _ x4 h4 (UV.cut (u := .obj C' ns xs) (by simpa [noCel] using kk.1) ⟨a, dx', vs', rfl, upd_same, hl, rs.up x3⟩)
          · exact q.elim
        · exact q.elim
    | _ => exact fun q => q.elim
theorem make_guards {A : Around} {C : Addr} {us : List Value} {kw : List (Str × Value)} (h : A.guards = some []) : (A.under (.builtin "type.__call__" ⟨.ref C :: us, kw⟩)).guards = some [] := by
  first | exact h | simpa [Around.under, Code.isGuard, guardIds] using h
theorem run_mkG {pins : List (Addr × Obj)} {σ : L2.St} {H : Hp} {s : Shared} {Q : VK} {us bs : List Value} {kw : List (Str × Value)} {vs : List V} {w : Wd} {c : Cs} {uu : List U} {mode : Nat} {fa : Addr} {fd : FuncData} (M : Mk X.K (g.cls C) fa)
    (F : FnG X.prog X.w X.K X.mg X.base k fa fd ps (SpF g ps.length Fm)) (hr : Room (k + 1) X.A) (hgd : X.A.guards = some []) (tk : Takes X Wx) (I : Inv X pins σ H s)
    (hb : ∀ (s' : Shared) (a : Value), X.K.In s'.heap → (bs.length + 1 = ps.length) → BindsTo s' fd ⟨a :: us, kw⟩ (ps.zip (a :: bs))) (r : Vals vs bs)
    (hn : uu.length + 1 = ps.length) (hh : HRel g w c H) (ru : UVs g w uu vs) (q : Post g w σ Wx (UV g) Q (mkI mode C Fm uu c)) : wpAny (model X.prog X.w) X.A (call (.ref (g.cls C)) us kw) (EP X pins σ Q) X.xe s := by
  obtain ⟨w2, c2, u2, h2, r2, l2, q2⟩ := mkI_ok hh ru q (I.hok.fresh (Nat.le_succ s.heap.objs.size)) (I.hok.fresh (Nat.le_refl _)) (Nat.ne_of_lt (Nat.lt_succ_self _))
  have I2 := Inv.made (C := g.cls C) I
  have hl : bs.length + 1 = ps.length := by rw [← r.length, ← ru.length]; exact hn
  have hsp : SpF g ps.length Fm (V.ref (s.heap.objs.size + 1) :: vs) (upd (upd H s.heap.objs.size (.own (s.heap.objs.size + 1))) (s.heap.objs.size + 1) (.ins (g.cls C) s.heap.objs.size [])) (fun v H2 => v = .non ∧ Q (.ref (s.heap.objs.size + 1)) H2) (fun cls d H' => Wx cls d σ H') := by
    refine ⟨by rw [← r2.length, l2]; exact hn, w2, c2, u2, h2, r2, ?_⟩
    revert q2
    cases Fm u2 c2 with
    | ok u c' => exact fun q => q
    | exc e c' => exact fun q => q
    | bad => exact fun q => q
  refine wpAny_call (make_map (f := fa) I.kIn M.makes M.init (beq_iff_eq.mp M.fn) (codeAny_mono (F.go (args := ⟨Value.ref (s.heap.objs.size + 1) :: us, kw⟩) (us := .ref (s.heap.objs.size + 1) :: bs) (hr.make (g.cls C) us kw) (make_guards hgd)
    (I2.env0.make (g.cls C) us kw) (hb _ _ I2.kIn hl) (vs := V.ref (s.heap.objs.size + 1) :: vs) (.cons rfl r) hsp) fun res s' hq => ?_))
  cases res with
  | error e => exact tk _ _ (XE.of_call I2 (fun cls d H' h => h) hq)
  | ok fl =>
    cases fl with
    | ret u =>
      obtain ⟨v, H', I3, rv, ev, q3⟩ := I2.after hq
      subst ev
      exact ⟨rv, ⟨V.ref (s.heap.objs.size + 1), H', I3, rfl, q3⟩⟩
    | next => exact hq.elim
    | brk => exact hq.elim
    | cont => exact hq.elim
/-- a class with its __init__ -/
structure OwnI (P : Program) (w : World) (K : PySem.W.Frag) (mg : Str → Option Value) (base : Heap) (g : Gc) (k : Nat) (C : Nat) (ps : List Str) (dus : List U) (Fm : List U → Cs → R U) : Prop where
  ex : ∃ (f : Addr) (fd : FuncData) (ds : List Value) (dvs : List V), Mk K (g.cls C) f ∧ FnG P w K mg base k f fd ps (SpF g ps.length Fm) ∧ Vals dvs ds ∧ (∀ w, UVs g w dus dvs) ∧ Binds K fd ps ds
theorem de_make {mode : Nat} (O : OwnI X.prog X.w X.K X.mg X.base g k C ps dus Fm) (hm : X.mg x = some (.ref (g.cls C))) (hr : Room j X.A) (hkj : k + 1 ≤ j) (hgd : X.A.guards = some []) (tk : Takes X Wx) (ha : DA X g Wx (e :: es) ms)
    {n : Nat} (hn : ∀ us τ c c', ms τ c = .ok us c' → us.length = n) (hps : n + dus.length + 1 = ps.length) (hg : Gl X x := by rfl) (hdb : (x == ("__debug__" : Str)) = false := by decide) (he : starEach (e :: es) X.env = (false, eval e X.env) :: starEach es X.env := by rfl)
    (hpl : (backTo pos (starEach es X.env)).any (·.1) = false := by rfl) : DE X g Wx (.Call (.Name x p) (e :: es) [] pos) (mMake mode C Fm dus ms) := by
  obtain ⟨fa, fd, ds, dvs, M, F, hd, hdu, hb⟩ := O.ex
  refine ⟨fun pins s σ H Q I ⟨w, τ, c, hs, hh, q⟩ => ?_⟩
  refine wpAny_Call_Name_kw (ld_glob I hg hm ?_ hdb)
  have key : rd g Wx (UVs g) ms σ H fun vs H1 => ∃ w1 c1 uu, HRel g w1 c1 H1 ∧ UVs g w1 uu (vs ++ dvs) ∧ uu.length + 1 = ps.length ∧ Post g w1 σ Wx (UV g) Q (mkI mode C Fm uu c1) :=
    MA_len hn hs hh q fun us c1 w1 vs H1 hl e1 h1 r1 s1 q1 => ⟨w1, c1, us ++ dus, h1, r1.app (hdu w1), by rw [List.length_append]; omega, q1⟩
  refine PySem.W.callWith_K (h₀ := X.base) I.ok.mod.kin M.kp (thn (ha.run pos pins s σ H _ I key) fun us s1 ⟨vs, H1, I1, r, w1, c1, uu, h1, ru, hl, q1⟩ => ⟨I1.kIn, ?_⟩) he hpl
  exact run_mkG (bs := us ++ ds) M F (hr.mono hkj) hgd tk I1 (fun s' a k hl => hb s' (a :: us) k hl) (r.append hd) hl h1 ru q1
end
end Mi
namespace Mi
open PySem PySem.Spec PyProof.Rows L2

section
variable {X : Cx} {g : Gc} {Wx : WX} {k j : Nat} {ps : List Str} {dus : List U} {Fm : List U → Cs → R U} {C : Nat} {pins : List (Addr × Obj)} {σ : L2.St} {H : Hp} {s : Shared} {Q : VK}
/-- the callee runs somewhere below, and nothing leaves it -/
theorem runGA {A' : Around} {us : List Value} {vs : List V} {w : Wd} {c : Cs} {uu : List U} {f : Addr} {fd : FuncData} {ds : List Value} {dvs : List V} (hr : Room k A') (hgd : A'.guards = some []) (e0 : Env0 X.prog X.w X.K X.mg X.base A' X.stack s H)
    (F : FnG X.prog X.w X.K X.mg X.base k f fd ps (SpF g ps.length Fm)) (I : Inv X pins σ H s) (hb : Binds X.K fd ps ds) (hd : Vals dvs ds) (r : Vals vs us) (hn : uu.length = ps.length) (hh : HRel g w c H) (ru : UVs g w uu (vs ++ dvs))
    (q : PostF g w Q (fun _ _ _ => False) (Fm uu c)) : wpAny (model X.prog X.w) A' (call (.ref f) us) (EP X pins σ Q) X.xe s := by
  have hsp : SpF g ps.length Fm (vs ++ dvs) H Q (fun _ _ _ => False) := ⟨by rw [← ru.length, hn], w, c, uu, hh, ru, q⟩
  have r2 := r.append hd
  have hl : (us ++ ds).length = ps.length := by rw [← r2.length]; exact F.len _ _ _ _ hsp
  refine wpAny_call (codeAny_mono (F.go hr hgd e0 (hb s us I.kIn hl) r2 hsp) fun res s' hq => ?_)
  cases res with
  | error e =>
    obtain ⟨_, _, _, _, _, _, _, _, _, _, _, _, z⟩ := hq
    exact z.elim
  | ok fl =>
    cases fl with
    | ret u => exact I.after hq
    | next => exact hq.elim
    | brk => exact hq.elim
    | cont => exact hq.elim
theorem in1_guards {A : Around} (h : A.guards = some []) : A.in1.guards = some [] := by
  first | exact h | simpa [Around.in1] using h
/-- two operands, the left one an instance of C whose def answers -/
def fOwn2 (C : Nat) (Fm : List U → Cs → R U) (u v : U) (c : Cs) : Option (U × Cs) := match oview c u with
  | some (C', _, _) => if C' = C then (match Fm [u, v] c with | .ok z c' => some (z, c') | _ => none) else none
  | none => none
/-- what the reading asks: D says of the right operand what the operator wants to know -/
def rOwn2 (g : Gc) (C : Nat) (Fm : List U → Cs → R U) (D : V → Hp → Prop) : R2 := fun x y H Q => ∃ w c u v a dx fs, HRel g w c H ∧ UV g w u x ∧ UV g w v y ∧ x = .ref a ∧ H a = some (.ins (g.cls C) dx fs) ∧ D y H ∧ PostF g w Q (fun _ _ _ => False) (Fm [u, v] c)
theorem fOwn2_ok {D : V → Hp → Prop} {w : Wd} {c : Cs} {u v z : U} {x y : V} {c' : Cs} (hh : HRel g w c H) (ru : UV g w u x) (rv : UV g w v y) (e : fOwn2 C Fm u v c = some (z, c')) (hD : D y H) (h : Then g w z c' Q) : rOwn2 g C Fm D x y H Q := by
  unfold fOwn2 at e
  split at e
  · rename_i C' ns xs eo
    split at e
    · rename_i hC
      subst hC
      obtain ⟨a, dx, vs, rfl, hA, hl, rs⟩ := oview_ok hh ru eo
      refine ⟨w, c, u, v, a, dx, _, hh, ru, rv, rfl, hA, hD, ?_⟩
      cases ef : Fm [u, v] c with
      | ok z' c1 => rw [ef] at e; cases e; exact h
      | exc _ _ => rw [ef] at e; cases e
      | bad => rw [ef] at e; cases e
    · cases e
  · cases e
/-- the types that a right operand may have -/
def TyD (K : PySem.W.Frag) (ok : Value → Prop) : V → Hp → Prop := fun y H => ∃ t, TyOf K H y t ∧ ok t
theorem looks_ty {y : V} {v t : Value} (I : Inv X pins σ H s) (r : RelV y v) (ty : TyOf X.K H y t) : PySem.W.Looks (model X.prog X.w) s.heap (typeOf v) t := by
  cases ty with
  | non => cases (show v = Value.none from r); exact PySem.W.Looks.of_pure rfl
  | bl b => cases (show v = Value.bool b from r); exact PySem.W.Looks.of_pure rfl
  | int i => obtain ⟨t, q⟩ := (show ∃ t, v = Value.int i t from r); cases q; exact PySem.W.Looks.of_pure rfl
  | str x => obtain ⟨t, q⟩ := (show ∃ t, v = Value.str x t from r); cases q; exact PySem.W.Looks.of_pure rfl
  | flt x => obtain ⟨t, q⟩ := (show ∃ t, v = Value.float x t from r); cases q; exact PySem.W.Looks.of_pure rfl
  | @lst a xs ea =>
    cases (show v = Value.ref a from r)
    obtain ⟨_, _, n, _, h1⟩ := (show ObjOk X.prog X.w H s.heap a (.lst xs) from I.hok a _ ea)
    exact fun A Q E s k q => wpAny_typeOf_ref (k _ _ h1) q
  | @frz a ob xs ea =>
    cases (show v = Value.ref a from r)
    obtain ⟨_, _, _, n, _, h1⟩ := (show ObjOk X.prog X.w H s.heap a (.frz ob (.lst xs)) from I.hok a _ ea)
    exact fun A Q E s k q => wpAny_typeOf_ref (k _ _ h1) q
  | @tup a xs ea =>
    cases (show v = Value.ref a from r)
    obtain ⟨_, _, _, p⟩ := (show ObjOk X.prog X.w H s.heap a (.tup xs) from I.hok a _ ea)
    obtain ⟨o, h1, h2, _⟩ := p
    exact fun A Q E s k q => wpAny_typeOf_ref (k _ _ h1) (by rw [h2]; exact q)
  | @dK a kvs ea =>
    cases (show v = Value.ref a from r)
    obtain ⟨_, _, vs, _, p⟩ := (show ObjOk X.prog X.w H s.heap a (.dK kvs) from I.hok a _ ea)
    obtain ⟨o, es, ep, h1, h2, _⟩ := p
    exact fun A Q E s k q => wpAny_typeOf_ref (k _ _ h1) (by rw [h2.1]; exact q)
  | @dT a kvs ea =>
    cases (show v = Value.ref a from r)
    obtain ⟨_, _, xs, _, o, es, ep, h1, h2, _⟩ := (show ObjOk X.prog X.w H s.heap a (.dT kvs) from I.hok a _ ea)
    exact fun A Q E s k q => wpAny_typeOf_ref (k _ _ h1) (by rw [h2.1]; exact q)
  | @ins a C dx fs ea cl ha hn htk hm =>
    cases (show v = Value.ref a from r)
    obtain ⟨mA, O, _⟩ := ins_get I.hok ea
    obtain ⟨od, J, _⟩ := O.look
    exact J.type
theorem op_own2 {op : Operator} (hc : PySem.W.selfFirst X.K (g.cls C) = true) (O : OwnF X.prog X.w X.K X.mg X.base g k (InC X.K (g.cls C) (PySem.dunder op.info.2)) ps [] Fm) (hps : ps.length = 2) (hr : Room k X.A) (hgd : X.A.guards = some []) :
    OpR X (binaryOp op) (rOwn2 g C Fm fun y H => ∃ b dy fy, y = .ref b ∧ H b = some (.ins (g.cls C) dy fy)) := by
  obtain ⟨fa, fd, ds, dvs, hat, F, hfn, hkp, hd, hdu, hb⟩ := O.ex
  intro pins s σ H x y v u Q I rx ry h
  obtain ⟨w, c, uu, vv, a, dx, fs, hh, r1, r2, rfl, hA, ⟨b, dy, fy, rfl, hB⟩, q⟩ := h
  cases (show v = Value.ref a from rx)
  cases (show u = Value.ref b from ry)
  obtain ⟨mA, O1, _⟩ := ins_get I.hok hA
  obtain ⟨od, J, _⟩ := O1.look
  obtain ⟨mB, O2, _⟩ := ins_get I.hok hB
  obtain ⟨od2, J2, _⟩ := O2.look
  obtain ⟨m, hF⟩ := I.fr
  refine PySem.W.binop_K hF I.ok.mod.kin J J2.type hc hat hfn ?_
  have hdv : dvs = [] := by have := hdu w; cases (show dvs = [] from this); rfl
  refine wpAny_mono (runGA (us := [.ref a, .ref b]) (vs := [.ref a, .ref b]) hr hgd I.env0 F I hb hd (.cons rfl (.cons rfl .nil)) (by rw [hps]; rfl) hh (by subst hdv; exact ⟨_, _, rfl, r1, _, _, rfl, r2, rfl⟩) q) (fun z s' hz => ?_) fun _ _ x => x
  obtain ⟨z', H', I', rz, qz⟩ := hz
  exact SlX.cmpback rz ⟨z', H', I', rz, qz⟩
theorem op_ownC {op : CmpOp} (hop : ∀ a b, compareOp op a b = richCompare op a b) (O : OwnF X.prog X.w X.K X.mg X.base g k (InC X.K (g.cls C) (cmpInfo op).2.1) ps [] Fm) (hps : ps.length = 2) (hr : Room k X.A) (hgd : X.A.guards = some []) :
    OpR X (compareOp op) (rOwn2 g C Fm fun y H => ∃ t, TyOf X.K H y t ∧ PySem.W.notFirst X.K (g.cls C) t = true) := by
  obtain ⟨fa, fd, ds, dvs, hat, F, hfn, hkp, hd, hdu, hb⟩ := O.ex
  intro pins s σ H x y v u Q I rx ry h
  obtain ⟨w, c, uu, vv, a, dx, fs, hh, r1, r2, rfl, hA, ⟨t, ty, hnf⟩, q⟩ := h
  cases (show v = Value.ref a from rx)
  obtain ⟨mA, O1, _⟩ := ins_get I.hok hA
  obtain ⟨od, J, _⟩ := O1.look
  obtain ⟨m, hF⟩ := I.fr
  rw [hop]
  refine PySem.W.cmp_K (op := op) (tb := t) hr.units0 hF I.ok.mod.kin J (looks_ty I ry ty) hnf hat hfn ?_
  have hdv : dvs = [] := by have := hdu w; cases (show dvs = [] from this); rfl
  refine wpAny_mono (runGA (us := [.ref a, u]) (vs := [.ref a, y]) hr hgd I.env0 F I hb hd (.cons rfl (.cons ry .nil)) (by rw [hps]; rfl) hh (by subst hdv; exact ⟨_, _, rfl, r1, _, _, rfl, r2, rfl⟩) q) (fun z s' hz => ?_) fun _ _ x => x
  obtain ⟨z', H', I', rz, qz⟩ := hz
  exact SlX.cmpback rz ⟨z', H', I', rz, qz⟩
/-- x != y by the own __eq__ -/
def fOwnN (C : Nat) (Fm : List U → Cs → R U) (u v : U) (c : Cs) : Option (U × Cs) := match fOwn2 C Fm u v c with
  | some (.bl b, c') => some (.bl (!b), c')
  | _ => none
def rOwnN (g : Gc) (C : Nat) (Fm : List U → Cs → R U) (D : V → Hp → Prop) : R2 := fun x y H Q => rOwn2 g C Fm D x y H fun z H' => ∃ b, z = .bl b ∧ Q (.bl (!b)) H'
theorem fOwnN_ok {D : V → Hp → Prop} {w : Wd} {c : Cs} {u v z : U} {x y : V} {c' : Cs} (hh : HRel g w c H) (ru : UV g w u x) (rv : UV g w v y) (e : fOwnN C Fm u v c = some (z, c')) (hD : D y H) (h : Then g w z c' Q) : rOwnN g C Fm D x y H Q := by
  unfold fOwnN at e
  split at e
  · rename_i b c1 e1
    cases e
    exact fOwn2_ok hh ru rv e1 hD fun w' bb H' e2 h2 r2 => ⟨b, r2, h w' _ H' e2 h2 rfl⟩
  · cases e
open Builtin in
theorem obj_ne {x : Addr} {ox : Obj} {od : Option Obj} {Ca f : Addr} {b : Value} {A' : Around} {K : PySem.W.Frag} {prog : Program} {w : World} {E : Value → Shared → Prop} {R' : Value → Shared → Prop} {s : Shared} (hu : A'.in1.units < cLine) (XK : K.In s.heap) (J : PySem.W.InstAt s.heap x ox Ca od)
    (hm : PySem.W.mroIn K Ca (.type "object") = some true) (hs : PySem.W.findIn K (.ref Ca) "__eq__" = some (some (.ref f))) (hf : PySem.W.isFn K (.ref f) = true)
    (h : wpAny (model prog w) A'.in1 (call (.ref f) [.ref x, b]) (fun v s' => ∃ k, v = .bool k ∧ R' (.bool (!k)) s') E s) : wpAny (model prog w) A' (call (.builtin "object.__ne__") [.ref x, b]) R' E s := by
  refine wpAny_call (codeAny_call_builtin F.cmp_object.ne.plain F.cmpEntry_ne (PySem.W.check_slot F.cmpKind_ne F.cmpSplit_ne (J.type.andThen (PySem.W.looks_mroIn XK hm)) (F.cmpArgs_ne _ _) ?_))
  unfold Builtin.«object.__ne__»
  refine wpAny_bind (m := slotArgs "__ne__" 1 _) (wpAny_pure ?_)
  refine wpAny_bind (m := cRoomFor _ _) (wpAny_cRoomFor hu ?_)
  refine wpAny_bind (m := callSpecialIfBound? (.ref x) (Str.ofString "__eq__") _) (PySem.W.ifBound_K XK J hs hf (wpAny_mono h (fun v s' hv => ?_) fun _ _ y => y))
  obtain ⟨k, rfl, hq⟩ := hv
  refine wpAny_bind (m := truthy (.bool k)) (wpAny_truthy_bool ?_)
  exact wpAny_pure hq
theorem ifBound_B {M : Model} {A' : Around} {E : Value → Shared → Prop} {s : Shared} {K : PySem.W.Frag} {x Ca : Addr} {ox : Obj} {od : Option Obj} {name : Str} {id : String} {args : List Value} {Q : Option Value → Shared → Prop} (XK : K.In s.heap) (J : PySem.W.InstAt s.heap x ox Ca od)
    (hs : PySem.W.findIn K (.ref Ca) name = some (some (.builtin id))) (hb : ∀ self, bindSpecial (.builtin id) self = pure (.builtin id, [self])) (h : wpAny M A' (call (.builtin id) (.ref x :: args)) (fun v => Q (some v)) E s) :
    wpAny M A' (callSpecialIfBound? (.ref x) name args) Q E s := by
  simp only [callSpecialIfBound?, bindSpecialIfBound?]
  refine wpAny_holding (wpAny_bind (wpAny_bind (wpAny_bind (J.type.here ((PySem.W.looks_findIn XK hs).here ?_)))))
  refine wpAny_bind (wpAny_askSetting (wpAny_ite ?_))
  have last : wpAny M A' (call (.builtin id) ([.ref x] ++ args) >>= fun v => pure (some v)) Q E s := wpAny_bind (wpAny_mono h (fun v s' h' => wpAny_pure h') fun _ _ h' => h')
  split
  · exact wpAny_bind ((PySem.W.Looks.of_pure (hb _)).here (wpAny_pure (by exact last)))
  · exact wpAny_tryCatch (wpAny_bind ((PySem.W.Looks.of_pure (hb _)).here (wpAny_pure (by exact last))))
theorem op_ownN (O : OwnF X.prog X.w X.K X.mg X.base g k (InC X.K (g.cls C) "__eq__") ps [] Fm) (hne : PySem.W.findIn X.K (.ref (g.cls C)) "__ne__" = some (some (.builtin "object.__ne__"))) (hm : PySem.W.mroIn X.K (g.cls C) (.type "object") = some true)
    (hps : ps.length = 2) (hr : Room (k + 1) X.A) (hgd : X.A.guards = some []) :
    OpR X (compareOp .NotEq) (rOwnN g C Fm fun y H => ∃ t, TyOf X.K H y t ∧ PySem.W.notFirst X.K (g.cls C) t = true) := by
  obtain ⟨fa, fd, ds, dvs, hat, F, hfn, hkp, hd, hdu, hb⟩ := O.ex
  intro pins s σ H x y v u Q I rx ry h
  obtain ⟨w, c, uu, vv, a, dx, fs, hh, r1, r2, rfl, hA, ⟨t, ty, hnf⟩, q⟩ := h
  cases (show v = Value.ref a from rx)
  obtain ⟨mA, O1, _⟩ := ins_get I.hok hA
  obtain ⟨od, J, _⟩ := O1.look
  have hdv : dvs = [] := by have := hdu w; cases (show dvs = [] from this); rfl
  have one : wpAny (model X.prog X.w) X.A (tryCompare (.ref a) "__ne__" u) (fun r s' => ∃ v, r = some v ∧ EP X pins σ Q v s') X.xe s := by
    have back : wpAny (model X.prog X.w) X.A (call (.builtin "object.__ne__") [.ref a, u]) (fun v s' => ∃ b, v = .bool b ∧ EP X pins σ Q v s') X.xe s := by
      refine obj_ne (A' := X.A) (s := s) (by have := hr.units; show X.A.units + 1 < _; omega) I.kIn J hm hat hfn ?_
      refine wpAny_mono (runGA (us := [.ref a, u]) (vs := [.ref a, y]) hr.in1 (in1_guards hgd) I.env0.in1 F I hb hd (.cons rfl (.cons ry .nil)) (by rw [hps]; rfl) hh (by subst hdv; exact ⟨_, _, rfl, r1, _, _, rfl, r2, rfl⟩) q) (fun z s' hz => ?_) fun _ _ x => x
      obtain ⟨z', H', I', rz, b, rfl, qz⟩ := hz
      cases (show z = Value.bool b from rz)
      exact ⟨b, rfl, ⟨!b, rfl, .bl (!b), H', I', rfl, qz⟩⟩
    unfold tryCompare
    refine wpAny_bind (ifBound_B I.kIn J hne PySem.F.cmp_object.ne.bind (wpAny_mono back (fun v s' hv => ?_) fun _ _ e => e))
    obtain ⟨b, rfl, hq⟩ := hv
    exact wpAny_pure ⟨_, rfl, hq⟩
  show wpAny _ _ (richCompare .NotEq (.ref a) u) _ _ _
  unfold richCompare
  simp only [oneThing_ref]
  refine wpAny_holding (wpAny_bind (wpAny_cRoomFor hr.units0 ?_))
  refine wpAny_bind (J.type.here (wpAny_bind ((looks_ty I ry ty).here ?_)))
  split
  · rename_i q'
    have e : PySem.W.subIn X.K t (.ref (g.cls C)) = some false := by
      rcases Bool.or_eq_true_iff.mp hnf with e | e
      · rw [beq_iff_eq.mp e] at q'; simp at q'
      · exact beq_iff_eq.mp e
    refine wpAny_bind ((PySem.W.looks_subIn I.kIn e).here ?_)
    simp only [Bool.false_eq_true, if_false]
    refine wpAny_bind (wpAny_mono one (fun r s' z => ?_) fun _ _ e => e)
    obtain ⟨v, rfl, hq⟩ := z
    exact wpAny_pure hq
  · refine wpAny_bind (wpAny_pure ?_)
    simp only [Bool.false_eq_true, if_false]
    refine wpAny_bind (wpAny_mono one (fun r s' z => ?_) fun _ _ e => e)
    obtain ⟨v, rfl, hq⟩ := z
    exact wpAny_pure hq
/-! ### str(x), x an instance with its own __str__ -/
def rOwnS (g : Gc) (C : Nat) (Fm : List U → Cs → R U) : List V → Hp → VK → Prop := fun xs H Q => ∃ w c u a dx fs, xs = [V.ref a] ∧ HRel g w c H ∧ UV g w u (.ref a) ∧ H a = some (.ins (g.cls C) dx fs) ∧ PostF g w (fun z H' => ∃ y, z = .str y ∧ Q z H') (fun _ _ _ => False) (Fm [u] c)
theorem call_strO (O : OwnF X.prog X.w X.K X.mg X.base g k (InC X.K (g.cls C) "__str__") ps [] Fm) (hps : ps.length = 1) (hr : Room (k + 2) X.A) (hgd : X.A.guards = some []) : CallR X (.type "str") (rOwnS g C Fm) := by
  obtain ⟨fa, fd, ds, dvs, hat, F, hfn, hkp, hd, hdu, hb⟩ := O.ex
  intro pins s σ H xs us Q I r h
  obtain ⟨w, c, uu, a, dx, fs, rfl, hh, r1, hA, q⟩ := h
  obtain ⟨u, rfl, ru⟩ := vals1 r
  cases (show u = Value.ref a from ru)
  obtain ⟨mA, O1, _⟩ := ins_get I.hok hA
  obtain ⟨od, J, _⟩ := O1.look
  have hdv : dvs = [] := by have := hdu w; cases (show dvs = [] from this); rfl
  have hr2 : Room k X.A.in1.in1 := (show Room (k + 1) X.A.in1 from Room.in1 hr).in1
  refine PySem.W.kso_call hr2.units0 I.kIn J hat hfn ?_
  refine wpAny_mono (runGA (us := [.ref a]) (vs := [.ref a]) hr2 (in1_guards (in1_guards hgd)) I.env0.in1.in1 F I hb hd (.cons rfl .nil) (by rw [hps]; rfl) hh (by subst hdv; exact ⟨_, _, rfl, r1, rfl⟩) q) (fun z s' hz => ?_) fun _ _ x => x
  obtain ⟨z', H', I', rz, y, rfl, qz⟩ := hz
  obtain ⟨t, e⟩ := (show ∃ t, z = Value.str y t from rz)
  cases e
  exact ⟨.str y, H', I', ⟨t, rfl⟩, qz⟩
def fStrO (C : Nat) (Fm : List U → Cs → R U) (us : List U) (c : Cs) : Option (U × Cs) := match us with
  | [u] => match oview c u with
    | some (C', _, _) => if C' = C then (match Fm [u] c with | .ok (.str y) c' => some (.str y, c') | _ => none) else none
    | none => (match u with
      | .int i => if i.natAbs.log2 < 1920 then some (.str (toString i), c) else none
      | .str y => some (.str y, c)
      | _ => none)
  | _ => none
abbrev rStrO (g : Gc) (C : Nat) (Fm : List U → Cs → R U) : List V → Hp → VK → Prop := fun xs H Q => rOwnS g C Fm xs H Q ∨ ((∃ i, xs = [.int i] ∧ i.natAbs.log2 < 1920 ∧ Q (.str (toString i)) H) ∨ ∃ a, xs = [.str a] ∧ Q (.str a) H)
theorem strO_u : CallU g (fStrO C Fm) (rStrO g C Fm) := by
  intro w c H us vs z c' Q hh r e h
  unfold fStrO at e
  split at e
  · rename_i u
    obtain ⟨v, rfl, rv⟩ := uvs1 r
    split at e
    · rename_i C' ns xs eo
      split at e
      · rename_i hC
        subst hC
        obtain ⟨a, dx, vs, rfl, hA, hl, rs⟩ := oview_ok hh rv eo
        refine .inl ⟨w, c, u, a, dx, _, rfl, hh, rv, hA, ?_⟩
        cases ef : Fm [u] c with
        | ok z' c1 =>
          rw [ef] at e
          cases z' with
          | str y => cases e; exact fun w' v H' e2 h2 r2 => ⟨y, r2, h w' v H' e2 h2 r2⟩
          | _ => cases e
        | exc _ _ => rw [ef] at e; cases e
        | bad => rw [ef] at e; cases e
      · cases e
    · split at e
      · split at e
        · cases e
          cases (show v = _ from rv)
          exact .inr (.inl ⟨_, rfl, by assumption, Then.here h hh rfl⟩)
        · cases e
      · cases e
        cases (show v = _ from rv)
        exact .inr (.inr ⟨_, rfl, Then.here h hh rfl⟩)
      · cases e
  · cases e
theorem call_strSame : CallR X (.type "str") (fun xs H Q => ∃ a, xs = [.str a] ∧ Q (.str a) H) := SkE.call_str_str
theorem call_strA (O : OwnF X.prog X.w X.K X.mg X.base g k (InC X.K (g.cls C) "__str__") ps [] Fm) (hps : ps.length = 1) (hr : Room (k + 2) X.A) (hgd : X.A.guards = some []) : CallR X (.type "str") (rStrO g C Fm) :=
  (call_strO O hps hr hgd).or (call_str_int.or call_strSame)
/-! ### the usual operators, and own ones beside them -/
def fEither (f1 f2 : U → U → Cs → Option (U × Cs)) (u v : U) (c : Cs) : Option (U × Cs) := match oview c u with
  | some _ => f1 u v c
  | none => f2 u v c
theorem either_u {r1 r2 : R2} {f1 f2 : U → U → Cs → Option (U × Cs)} (h1 : OpU g f1 r1) (h2 : OpU g f2 r2) : OpU g (fEither f1 f2) (fun x y H Q => r1 x y H Q ∨ r2 x y H Q) := by
  intro w c H u v x y z c' Q hh ru rv e h
  unfold fEither at e
  split at e
  · exact .inl (h1 w c H u v x y z c' Q hh ru rv e h)
  · exact .inr (h2 w c H u v x y z c' Q hh ru rv e h)
end
end Mi
namespace Mi
open PySem PySem.Spec PyProof.Rows L2

section
variable {X : Cx} {g : Gc} {Wx : WX} {x : Str} {p p2 pos pos' np : Pos} {e : Expr} {es : List Expr} {m n : ME} {i : Nat}
/-- a part that is never come to -/
def mDead {α : Type} : T → Cs → R α := fun _ _ => .bad
def msDead : MS := fun _ _ => .bad
theorem de_dead {e : Expr} : DE X g Wx e mDead := ⟨fun pins s σ H Q I ⟨w, τ, c, hs, hh, q⟩ => q.elim⟩
theorem ds_dead {st : Stmt} : DS X g Wx st msDead := ⟨fun pins s σ H D I ⟨w, τ, c, hs, hh, q⟩ => q.elim⟩
theorem dss_dead {st : List Stmt} : DSs X g Wx st msDead := ⟨fun pins s σ H D I ⟨w, τ, c, hs, hh, q⟩ => q.elim⟩
/-! ### raise C() -/
theorem pmk_bare {C : Addr} {bmB : List Value} {B newId initId : String} (F : ExcBaseFacts B newId initId bmB) (q : PySem.W.excIn X.K C bmB newId = true) (gC : X.mg x = some (.ref C)) (kC : PySem.W.keepIn X.K (.ref C) = true) (r : Raises X (.ref C)) (hg : Gl X x)
    (hdb : (x == ("__debug__" : Str)) = false := by decide) : PMk X (.Call (.Name x p) [] [] pos) (fun _ H Q => Q (.ref C) none H) := by
  intro pins s σ H Q I h
  refine wpAny_Call_Name_kw (ld_glob I hg gC ?_ hdb)
  refine PySem.W.callWith_K0 I.kIn kC ?_
  show wpAny _ _ (call (.ref C) []) _ _ _
  obtain ⟨bm, N, nm, qn, bs, hdct, sn, sub, ab, col, dd, k0, k1, k2, k3, k5, mN, hC, hN, hni, Tl⟩ := exc_obj I.kIn q
  refine wpAny_call_exc_subT F Tl hC hN hni (fun h' e hm => ?_) (Nat.zero_le _)
  exact mk_of I hm r h (I.hok.gone hm.new)
def msRaise0 (i : Nat) : MS := fun τ c => .exc ⟨i, [], []⟩ τ c
/-- what a class of an error without own __init__ must have; B: ValueError's facts -/
structure ErrC (K : PySem.W.Frag) (mg : Str → Option Value) (x : Str) (C : Addr) : Prop where
  gC : mg x = some (.ref C)
  q : ∃ bmB B newId initId, ExcBaseFacts B newId initId bmB ∧ PySem.W.excIn K C bmB newId = true
  kC : PySem.W.keepIn K (.ref C) = true
  s1 : PySem.W.subIn K (.ref C) (.type "BaseException") = some true
  s2 : PySem.W.typeIn K (.ref C) = some (.type "type")
theorem ds_raise0 (hc : X.calm = true) (tk : Takes X Wx) (E : ErrC X.K X.mg x (g.cls i)) (hg : Gl X x := by rfl) (hdb : (x == ("__debug__" : Str)) = false := by decide) : DS X g Wx (.Raise (some (.Call (.Name x p) [] [] p2)) none pos) (msRaise0 i) := by
  obtain ⟨bmB, B, newId, initId, F, q⟩ := E.q
  exact ps_imp (ps_raise hc tk (pmk_bare F q E.gC E.kC (raises_own E.s1 E.s2) hg hdb)) fun D σ H ⟨w, τ, c, hs, hh, q⟩ => q w σ _ _ H (Ext.refl w) hh hs ⟨rfl, .inl ⟨rfl, rfl⟩⟩
/-! ### try: .. except C: .. -/
def msTry (tbl : List (Nat × Bool)) (mb msu : MS) : MS := fun τ c => match mb τ c with
  | .exc e τ' c' => (match tbl.lookup e.c with
    | some true => (match msu τ' c' with
      | .exc _ _ _ => .bad
      | r => r)
    | some false => .exc e τ' c'
    | none => .bad)
  | r => r
theorem look_mem {β : Type} {k : Nat} {b : β} : ∀ {l : List (Nat × β)}, l.lookup k = some b → (k, b) ∈ l
  | [], h => by cases h
  | (a, y) :: l, h => by
    rw [List.lookup_cons] at h
    by_cases hk : k = a
    · subst hk
      simp at h
      subst h; exact List.mem_cons_self
    · rw [beq_eq_false_iff_ne.mpr hk] at h
      exact List.mem_cons_of_mem _ (look_mem h)
theorem ds_try0 {body suite : List Stmt} {b₀ : Stmt} {cv : Value} {tbl : List (Nat × Bool)} {mb msu : MS} (hs : X.stack = X.env :: X.outer) (hf : X.env.frame = some X.env.locals) (hc : Names X x cv) (tk : Takes X Wx)
    (hm : ∀ q ∈ tbl, PySem.W.exmOne X.K (.ref (g.cls q.1)) cv = some q.2)
    (hb : ∀ (W : WX) (pn : List (Addr × Obj)) (xe : Value → Shared → Prop), Takes (X.tr pn xe) W → PassesOwn (model X.prog X.w) X.A X.env xe → DSs (X.tr pn xe) g W body mb)
    (hsu : ∀ (a : Addr) (oe : Obj) (pn : List (Addr × Obj)), DSs (X.suite a ((a, oe) :: pn)) g WF (b₀ :: suite) msu) :
    DS X g Wx (.Try body [.ExceptHandler (some (.Name x np)) none (b₀ :: suite) pos'] [] [] pos) (msTry tbl mb msu) := by
  refine ps_imp (ps_try_only hs hf hc tk (tb := fun W => rdS g W mb) (ts := fun _ _ _ => rdS g WF msu) hb (fun a oe cls d pn _ _ => hsu a oe pn)) fun D σ H ⟨w, τ, c, hs, hh, q⟩ => ?_
  refine ⟨w, τ, c, hs, hh, ?_⟩
  unfold msTry at q
  revert q
  cases mb τ c with
  | nx τ' c' => exact fun q => q
  | ret u c' => exact fun q => q
  | bk τ' c' => exact fun q => q
  | ct τ' c' => exact fun q => q
  | bad => exact fun q => q
  | exc e τ' c' =>
    intro q w' σ' cls d H' ex h' s' xv
    dsimp only at q
    cases hl : tbl.lookup e.c with
    | none => rw [hl] at q; exact q.elim
    | some b =>
      rw [hl] at q
      have hk := hm _ (look_mem hl)
      refine ⟨b, by rw [xv.1]; exact hk, fun hb => ?_, fun hb => ?_⟩
      · subst hb
        intro a ha
        refine ⟨w', τ', c', s', h', ?_⟩
        dsimp only at q
        revert q
        cases msu τ' c' with
        | nx τ2 c2 => exact fun q => PostS.up (r := .nx τ2 c2) ex q
        | ret u c2 => exact fun q => PostS.up (r := .ret u c2) ex q
        | bk τ2 c2 => exact fun q => PostS.up (r := .bk τ2 c2) ex q
        | ct τ2 c2 => exact fun q => PostS.up (r := .ct τ2 c2) ex q
        | exc e2 τ2 c2 => exact fun q => q.elim
        | bad => exact fun q => q.elim
      · subst hb
        exact q w' σ' cls d H' ex h' s' xv
/-! ### int(x): of a text too -/
def fIntT (us : List U) (c : Cs) : Option (U × Cs) := match us with
  | [.str a] => if a.length ≤ 640 then (PySem.intText? a).map fun n => (.int n, c) else none
  | us => fInt us c
end
end Mi
namespace Mi
open PySem PySem.Spec PyProof.Rows L2

section
variable {X : Cx} {g : Gc} {Wx : WX} {k j : Nat} {ps : List Str} {dus : List U} {Fm : List U → Cs → R U} {x y m f : Str} {p q2 pos apos pos' : Pos} {e o : Expr} {es : List Expr} {ms : MA} {mo mv : ME} {C : Nat} {n : ME}
abbrev rIntT : List V → Hp → VK → Prop := fun xs H Q => (∃ a n, xs = [.str a] ∧ PySem.intText? a = some n ∧ a.length ≤ 640 ∧ Q (.int n) H) ∨ ((∃ i, xs = [.int i] ∧ Q (.int i) H) ∨ ∃ k, xs = [.bl k] ∧ Q (.int (if k then 1 else 0)) H)
theorem call_intA : CallR X (.type "int") rIntT := call_int_str.or call_int1
theorem intT_u : CallU g fIntT rIntT := by
  intro w c H us vs z c' Q hh r e h
  unfold fIntT at e
  split at e
  · rename_i a
    obtain ⟨v, rfl, rv⟩ := uvs1 r
    cases (show v = _ from rv)
    split at e
    · rename_i hl
      cases hi : PySem.intText? a with
      | none => rw [hi] at e; cases e
      | some n =>
        rw [hi] at e; cases e
        exact .inl ⟨a, n, rfl, hi, hl, Then.here h hh rfl⟩
    · cases e
  · exact .inr (int_u w c H us vs z c' Q hh r e h)
/-! ### f-texts -/
def mFmt (m : ME) : ME := fun τ c => (m τ c).bind fun u c1 => match u with
  | .str y => if y.length ≤ sizeLine then .ok (.str y) c1 else .bad
  | .int i => if i.natAbs.log2 < 1920 then .ok (.str (toString i)) c1 else .bad
  | _ => .bad
theorem de_fmt (h : DE X g Wx e mo) : DE X g Wx (.FormattedValue e (-1) none pos) (mFmt mo) :=
  pe_imp (pe_fmt h) fun σ H Q ⟨w, τ, c, hs, hh, q⟩ => rd_bind q hs hh fun u c1 w1 v H1 e1 h1 r1 s1 q1 => by
    split at q1
    · split at q1
      · cases (show v = _ from r1)
        exact .inl ⟨_, rfl, by assumption, Post.here q1 h1 rfl⟩
      · exact q1.elim
    · split at q1
      · cases (show v = _ from r1)
        exact .inr ⟨_, rfl, by assumption, Post.here q1 h1 rfl⟩
      · exact q1.elim
    · exact q1.elim
/-- the parts of an f-text -/
inductive DJ (X : Cx) (g : Gc) (Wx : WX) : List Expr → List ME → Prop where
  | nil : DJ X g Wx [] []
  | cons {e : Expr} {m : ME} {es : List Expr} {ms : List ME} (h : DE X g Wx e m) (r : DJ X g Wx es ms) : DJ X g Wx (e :: es) (m :: ms)
def mJs : List ME → Str → ME
  | [], acc => fun _ c => .ok (.str acc) c
  | m :: ms, acc => fun τ c => (m τ c).bind fun u c1 => match u with
    | .str y => if (acc ++ y).length ≤ sizeLine then mJs ms (acc ++ y) τ c1 else .bad
    | _ => .bad
theorem dj_pj {es : List Expr} {ms : List ME} (h : DJ X g Wx es ms) : PJ X es (ms.map fun m => rd g Wx (UV g) m) := by
  induction h with
  | nil => exact .nil
  | cons h _ ih => exact .cons h ih
theorem js_run {τ : T} {σ : L2.St} {Q : VK} : ∀ (ms : List ME) (acc : Str) {w : Wd} {c : Cs} {H : Hp}, SR g w τ σ → HRel g w c H → Post g w σ Wx (UV g) Q (mJs ms acc τ c) → tJs (ms.map fun m => rd g Wx (UV g) m) acc σ H fun out H1 => Q (.str out) H1
  | [], acc, w, c, H, hs, hh, q => Post.here q hh rfl
  | m :: ms, acc, w, c, H, hs, hh, q => rd_bind q hs hh fun u c1 w1 v H1 e1 h1 r1 s1 q1 => by
    split at q1
    · split at q1
      · cases (show v = _ from r1)
        exact ⟨_, rfl, by assumption, js_run ms _ s1 h1 q1⟩
      · exact q1.elim
    · exact q1.elim
theorem de_joined {v1 v2 : Expr} {rest : List Expr} {ms : List ME} (h : DJ X g Wx (v1 :: v2 :: rest) ms) : DE X g Wx (.JoinedStr (v1 :: v2 :: rest) pos) (mJs ms Str.empty) :=
  pe_imp (pe_joined (dj_pj h)) fun σ H Q ⟨w, τ, c, hs, hh, q⟩ => js_run (w := w) (c := c) (H := H) ms Str.empty hs hh q
theorem de_joined1 (h : DE X g Wx e mo) : DE X g Wx (.JoinedStr [e] pos) mo := pe_joined1 h
/-! ### isinstance(x, C), C an own class -/
/-- the answers: of the built-in kinds, of the own classes -/
def mIsC (tt : List (String × Bool)) (ti : List (Nat × Bool)) (m : ME) : ME := fun τ c => (m τ c).bind fun u c1 => match oview c1 u with
  | some (C, _, _) => (match ti.lookup C with | some b => .ok (.bl b) c1 | none => .bad)
  | none => (match tagU c1 u with
    | some t => (match tt.lookup t with | some b => .ok (.bl b) c1 | none => .bad)
    | none => .bad)
/-- what isinstance asks of an own class -/
structure IsiC (K : PySem.W.Frag) (C : Addr) : Prop where
  cl : Cls K C
  ha : PySem.W.findIn K (.ref C) "__class__" = some (some (.builtin "object.__class__"))
  hn : PySem.W.specialIn K (.builtin "object.__class__") "__get__" = some (some (.builtin "getset_descriptor.__get__"))
  htk : PySem.W.takesIn K (.builtin "object.__class__") = some true
  hm : PySem.W.mroIn K C (.type "object") = some true
theorem look_memS {β : Type} {k : String} {b : β} : ∀ {l : List (String × β)}, l.lookup k = some b → (k, b) ∈ l
  | [], h => by cases h
  | (a, y) :: l, h => by
    rw [List.lookup_cons] at h
    by_cases hk : k = a
    · subst hk
      simp at h
      subst h; exact List.mem_cons_self
    · rw [beq_eq_false_iff_ne.mpr hk] at h
      exact List.mem_cons_of_mem _ (look_memS h)
theorem de_isC {tt : List (String × Bool)} {ti : List (Nat × Bool)} {Ca : Addr} (hK : X.K = g.K) (ht : ∀ q ∈ tt, PySem.W.kitOne X.K (.type q.1) (.ref Ca) = some q.2) (hi : ∀ q ∈ ti, IsiC X.K (g.cls q.1) ∧ PySem.W.kitOne X.K (.ref (g.cls q.1)) (.ref Ca) = some q.2)
    (h : DE X g Wx e mo) (hm : X.mg "isinstance" = none) (hmy : X.mg y = some (.ref Ca)) (hg : Gl X "isinstance" := by rfl) (hgy : Gl X y := by rfl) (hdy : (y == ("__debug__" : Str)) = false := by decide)
    (hs1 : starEach [e, .Name y q2] X.env = (false, eval e X.env) :: starEach [.Name y q2] X.env := by rfl) (hs2 : starEach [.Name y q2] X.env = (false, eval (.Name y q2) X.env) :: starEach [] X.env := by rfl)
    (hpl : (backTo pos (starEach [.Name y q2] X.env)).any (·.1) = false := by rfl) : DE X g Wx (.Call (.Name "isinstance" p) [e, .Name y q2] [] pos) (mIsC tt ti mo) := by
  have hy : PE X (.Name y q2) (tC (.ref Ca)) := ⟨fun pins s σ H Q I q => ld_glob I hgy hmy ⟨.ref Ca, H, I, rfl, q⟩ hdy⟩
  refine pe_imp (pe_callB call_isi hg hm (by decide +kernel) (pa_cons h (pa_cons hy pa_nil hs2) hs1) (by decide) (by decide) hs1 hpl) fun σ H Q ⟨w, τ, c, hs, hh, q⟩ => ?_
  refine rd_bind q hs hh fun u c1 w1 v H1 e1 h1 r1 s1 q1 => ?_
  cases eo : oview c1 u with
  | some t =>
    obtain ⟨C, ns, xs⟩ := t
    rw [eo] at q1
    dsimp only at q1
    obtain ⟨a, dx, vs, rfl, hA, hl, rs⟩ := oview_ok h1 r1 eo
    cases el : ti.lookup C with
    | none => rw [el] at q1; exact q1.elim
    | some b =>
      rw [el] at q1
      obtain ⟨ic, hk⟩ := hi _ (look_mem el)
      exact ⟨_, _, .ref (g.cls C), _, b, rfl, .own Ca, .base (.ins hA ic.cl ic.ha ic.hn ic.htk ic.hm), hk, Post.here q1 h1 rfl⟩
  | none =>
    rw [eo] at q1
    dsimp only at q1
    cases et : tagU c1 u with
    | none => rw [et] at q1; exact q1.elim
    | some t =>
      rw [et] at q1
      dsimp only at q1
      cases el : tt.lookup t with
      | none => rw [el] at q1; exact q1.elim
      | some b =>
        rw [el] at q1
        have ty := tag_ok h1 r1 et
        rw [← hK] at ty
        exact ⟨_, _, .type t, _, b, rfl, .own Ca, .base ty, ht _ (look_memS el), Post.here q1 h1 rfl⟩
/-! ### a class as a value -/
theorem de_ty {Ca : Nat} (hmy : X.mg y = some (.ref (g.cls Ca))) (hgy : Gl X y := by rfl) (hdy : (y == ("__debug__" : Str)) = false := by decide) : DE X g Wx (.Name y q2) (mC (.ty Ca)) :=
  ⟨fun pins s σ H Q I ⟨w, τ, c, hs, hh, q⟩ => ld_glob I hgy hmy ⟨.ref (g.cls Ca), H, I, rfl, Post.here q hh rfl⟩ hdy⟩
end
end Mi
namespace Mi
open PySem PySem.Spec PyProof.Rows L2

section
variable {X : Cx} {g : Gc} {Wx : WX} {k j : Nat} {ps ks : List Str} {dus : List U} {Fm : List U → Cs → R U} {x y m f : Str} {p q2 pos apos pos' : Pos} {e o : Expr} {es : List Expr} {ms : MA} {mo mv : ME} {C : Nat} {n : ME} {kws : List Keyword}
/-- the callee as a piece of code -/
theorem runGC {pins : List (Addr × Obj)} {σ : L2.St} {H : Hp} {s : Shared} {Q : VK} {args : Args} {bs : List Value} {vs : List V} {w : Wd} {c : Cs} {uu : List U} {fa : Addr} {fd : FuncData}
    (F : FnG X.prog X.w X.K X.mg X.base k fa fd ps (SpF g ps.length Fm)) (hr : Room k X.A) (hgd : X.A.guards = some []) (tk : Takes X Wx) (I : Inv X pins σ H s) (hb : bs.length = ps.length → BindsTo s fd args (ps.zip bs)) (r : Vals vs bs)
    (hh : HRel g w c H) (ru : UVs g w uu vs) (hn : uu.length = ps.length) (q : Post g w σ Wx (UV g) Q (Fm uu c)) :
    codeAny (model X.prog X.w) X.A (.call (.ref fa) args) (fun r s' => match r with | .ok (.ret v) => EP X pins σ Q v s' | .ok _ => False | .error e => X.xe e s') s := by
  have hsp : SpF g ps.length Fm vs H Q (fun cls d H' => Wx cls d σ H') := by
    refine ⟨by rw [← ru.length, hn], w, c, uu, hh, ru, ?_⟩
    revert q
    cases Fm uu c with
    | ok u c' => exact fun q => q
    | exc e c' => exact fun q => q
    | bad => exact fun q => q
  have hl : bs.length = ps.length := by rw [← r.length, ← ru.length, hn]
  refine codeAny_mono (F.go hr hgd I.env0 (hb hl) r hsp) fun res s' hq => ?_
  cases res with
  | error e => exact tk _ _ (XE.of_call I (fun cls d H' h => h) hq)
  | ok fl =>
    cases fl with
    | ret u => exact I.after hq
    | next => exact hq.elim
    | brk => exact hq.elim
    | cont => exact hq.elim
/-- C.m(..), a class method; its first argument is the class -/
def mCm (C : Nat) (Fm : List U → Cs → R U) (ms : MA) : ME := fun τ c => (ms τ c).bind fun us c1 => Fm (.ty C :: us) c1
/-- a class method of the class at C -/
structure OwnC (P : Program) (w : World) (K : PySem.W.Frag) (mg : Str → Option Value) (base : Heap) (g : Gc) (k : Nat) (C : Nat) (m : Str) (ps : List Str) (kwl : List (List Str)) (Fm : List U → Cs → R U) : Prop where
  ex : ∃ (mc : Value) (pa fa : Addr) (fd : FuncData), ClX.CRead K (g.cls C) mc ∧ ClX.CMet K (g.cls C) mc m pa fa ∧ FnG P w K mg base k fa fd ps (SpF g ps.length Fm) ∧ Binds K fd ps [] ∧
    ∀ ks ∈ kwl, ∀ (s : Shared) (a : Value) (ws : List Value), K.In s.heap → ws.length = ks.length → ws.length + 1 = ps.length → BindsTo s fd ⟨[a], ks.zip ws⟩ (ps.zip (a :: ws))
theorem de_cm {kwl : List (List Str)} {pl : Sem Bool} (O : OwnC X.prog X.w X.K X.mg X.base g k C m ps kwl Fm) (hmx : X.mg x = some (.ref (g.cls C))) (hr : Room j X.A) (hkj : k ≤ j) (hgd : X.A.guards = some []) (tk : Takes X Wx) (ha : DA X g Wx (e :: es) ms)
    {n : Nat} (hn : ∀ us τ c c', ms τ c = .ok us c' → us.length = n) (hps : n + 1 = ps.length) (hg : Gl X x := by rfl) (hdb : (x == ("__debug__" : Str)) = false := by decide)
    (hst : starEach (e :: es) X.env = (false, eval e X.env) :: starEach es X.env := by rfl) (hpl : (backTo pos (starEach es X.env)).any (·.1) = false := by rfl)
    (ht : eval (.Call (.Attribute (.Name x p) m apos) (e :: es) [] pos) X.env = (eval (.Name x p) X.env >>= fun ov => standAt apos.atName >>= fun _ => holding [ov] (getMethod ov m pl) >>= fun q => callWith pos q.1 q.2 (backTo pos (starEach (e :: es) X.env)) (backToKw pos (keywordEach [] X.env))) := by rfl) :
    DE X g Wx (.Call (.Attribute (.Name x p) m apos) (e :: es) [] pos) (mCm C Fm ms) := by
  obtain ⟨mc, pa, fa, fd, r, c0, F, hb, _⟩ := O.ex
  refine ⟨fun pins s σ H Q I ⟨w, τ, c, hs, hh, q⟩ => ?_⟩
  have key : rd g Wx (UVs g) ms σ H fun vs H1 => ∃ w1 c1 uu, HRel g w1 c1 H1 ∧ UVs g w1 uu (V.ref (g.cls C) :: vs) ∧ uu.length = ps.length ∧ Post g w1 σ Wx (UV g) Q (Fm uu c1) :=
    MA_len hn hs hh q fun us c1 w1 vs H1 hl e1 h1 r1 s1 q1 => ⟨w1, c1, .ty C :: us, h1, ⟨_, _, rfl, rfl, r1⟩, by rw [List.length_cons]; omega, q1⟩
  refine PySem.W.methodCall_KW (pl := pl) (ld_glob I hg hmx ?_ hdb) ht
  refine ClX.getmethcm_ok I r c0 fun s2 I2 => ?_
  refine ClX.callwith_cm I2 (ClX.base_none I (Nat.le_refl _)) c0.fi (thn (ha.run pos _ s2 σ H _ I2 key) fun us s3 ⟨vs, H2, I3, rv, w1, c1, uu, h1, ru, hl, q2⟩ => ⟨⟨ClX.pin_at I3, I3.kIn⟩, ?_⟩) hst hpl
  refine thn (wpAny_call (PySem.W.method_call (ClX.pin_at I3) (runGC (bs := .ref (g.cls C) :: us) (vs := V.ref (g.cls C) :: vs) F (hr.mono hkj) hgd tk I3 (fun hl => ?_) (.cons rfl rv) h1 ru hl q2))) fun _ _ y => ClX.unpinE y
  have b := hb s3 (.ref (g.cls C) :: us) I3.kIn (by rw [List.append_nil]; exact hl)
  rw [List.append_nil] at b
  exact b
/-- .. by keywords alone -/
theorem de_cmK {kwl : List (List Str)} {pl : Sem Bool} (O : OwnC X.prog X.w X.K X.mg X.base g k C m ps kwl Fm) (hq : ks ∈ kwl) (hmx : X.mg x = some (.ref (g.cls C))) (hr : Room j X.A) (hkj : k ≤ j) (hgd : X.A.guards = some []) (tk : Takes X Wx) (ha : DK X g Wx kws ms)
    (hn : ∀ us τ c c', ms τ c = .ok us c' → us.length = ks.length) (hps : ks.length + 1 = ps.length) (hg : Gl X x := by rfl) (hdb : (x == ("__debug__" : Str)) = false := by decide)
    (hall : (backToKw pos (keywordEach kws X.env)).all (·.1.isSome) = true := by rfl) (hks : (backToKw pos (keywordEach kws X.env)).filterMap (·.1) = ks := by rfl)
    (hpl : ((backTo pos (starEach [] X.env)).any (·.1) || (backToKw pos (keywordEach kws X.env)).any (·.1.isNone)) = false := by rfl)
    (ht : eval (.Call (.Attribute (.Name x p) m apos) [] kws pos) X.env = (eval (.Name x p) X.env >>= fun ov => standAt apos.atName >>= fun _ => holding [ov] (getMethod ov m pl) >>= fun q => callWith pos q.1 q.2 (backTo pos (starEach [] X.env)) (backToKw pos (keywordEach kws X.env))) := by rfl) :
    DE X g Wx (.Call (.Attribute (.Name x p) m apos) [] kws pos) (mCm C Fm ms) := by
  obtain ⟨mc, pa, fa, fd, r, c0, F, _, hb⟩ := O.ex
  refine ⟨fun pins s σ H Q I ⟨w, τ, c, hs, hh, q⟩ => ?_⟩
  have key : rd g Wx (UVs g) ms σ H fun vs H1 => ∃ w1 c1 uu, HRel g w1 c1 H1 ∧ UVs g w1 uu (V.ref (g.cls C) :: vs) ∧ uu.length = ps.length ∧ vs.length = ks.length ∧ Post g w1 σ Wx (UV g) Q (Fm uu c1) :=
    MA_len hn hs hh q fun us c1 w1 vs H1 hl e1 h1 r1 s1 q1 => ⟨w1, c1, .ty C :: us, h1, ⟨_, _, rfl, rfl, r1⟩, by rw [List.length_cons]; omega, by rw [← r1.length]; exact hl, q1⟩
  refine PySem.W.methodCall_KW (pl := pl) (ld_glob I hg hmx ?_ hdb) ht
  refine ClX.getmethcm_ok I r c0 fun s2 I2 => ?_
  refine PySem.W.callWith_of hpl (PySem.W.keeps_M (K := X.K) c0.fi) (evalArgs_kw2_nil hall (thn (ha.run pos _ s2 σ H _ I2 key) fun ws s3 ⟨vs, H2, I3, rv, w1, c1, uu, h1, ru, hl, hl2, q2⟩ => ⟨⟨ClX.pin_at I3, I3.kIn⟩, ?_⟩))
  rw [hks]
  refine thn (wpAny_call (PySem.W.method_call (ClX.pin_at I3) (runGC (bs := .ref (g.cls C) :: ws) (vs := V.ref (g.cls C) :: vs) F (hr.mono hkj) hgd tk I3 (fun hl' => ?_) (.cons rfl rv) h1 ru hl q2))) fun _ _ y => ClX.unpinE y
  exact hb ks hq s3 _ ws I3.kIn (by rw [← rv.length]; exact hl2) (by rw [← rv.length, hl2]; exact hps)
/-! ### x(..), x a local name that holds the class -/
noncomputable def mMakeL (mode : Nat) (i : Nat) (C : Nat) (Fi : List U → Cs → R U) (dus : List U) (ms : MA) : ME := fun τ c => match τ[i]? with
  | some (some (.ty C')) => if C' = C then mMake mode C Fi dus ms τ c else .bad
  | _ => .bad
theorem de_makeL {mode i : Nat} (O : OwnI X.prog X.w X.K X.mg X.base g k C ps dus Fm) (hv : PE X (.Name x p) (tVar i)) (hr : Room j X.A) (hkj : k + 1 ≤ j) (hgd : X.A.guards = some []) (tk : Takes X Wx) (ha : DA X g Wx (e :: es) ms)
    {n : Nat} (hn : ∀ us τ c c', ms τ c = .ok us c' → us.length = n) (hps : n + dus.length + 1 = ps.length) (he : starEach (e :: es) X.env = (false, eval e X.env) :: starEach es X.env := by rfl)
    (hpl : (backTo pos (starEach es X.env)).any (·.1) = false := by rfl) : DE X g Wx (.Call (.Name x p) (e :: es) [] pos) (mMakeL mode i C Fm dus ms) := by
  obtain ⟨fa, fd, ds, dvs, M, F, hd, hdu, hb⟩ := O.ex
  refine ⟨fun pins s σ H Q I ⟨w, τ, c, hs, hh, q⟩ => ?_⟩
  unfold mMakeL at q
  split at q
  · rename_i C' ei
    split at q
    · rename_i hC
      subst hC
      obtain ⟨v, ev, rv⟩ := hs.get i _ ei
      cases (show v = V.ref (g.cls C') from rv)
      refine wpAny_Call_Name_kw (thn (hv.run pins s σ H (fun v H1 => v = .ref (g.cls C') ∧ H1 = H) I ⟨_, ev, rfl, rfl⟩) fun u s1 ⟨v, H1, I1, ru, e1, e2⟩ => ?_)
      subst e1 e2
      cases (show u = Value.ref (g.cls C') from ru)
      have key : rd g Wx (UVs g) ms σ H1 fun vs H1 => ∃ w1 c1 uu, HRel g w1 c1 H1 ∧ UVs g w1 uu (vs ++ dvs) ∧ uu.length + 1 = ps.length ∧ Post g w1 σ Wx (UV g) Q (mkI mode C' Fm uu c1) :=
        MA_len hn hs hh q fun us c1 w1 vs H1 hl e1 h1 r1 s1 q1 => ⟨w1, c1, us ++ dus, h1, r1.app (hdu w1), by rw [List.length_append]; omega, q1⟩
      refine PySem.W.callWith_K (h₀ := X.base) I.ok.mod.kin M.kp (thn (ha.run pos pins s1 σ H1 _ I1 key) fun us s1 ⟨vs, H1, I1, r, w1, c1, uu, h1, ru, hl, q1⟩ => ⟨I1.kIn, ?_⟩) he hpl
      exact run_mkG (bs := us ++ ds) M F (hr.mono hkj) hgd tk I1 (fun s' a k hl => hb s' (a :: us) k hl) (r.append hd) hl h1 ru q1
    · exact q.elim
  · exact q.elim
end
end Mi
namespace Mi
open PySem PySem.Spec PyProof.Rows L2

section
variable {X : Cx} {g : Gc} {k j : Nat} {ps : List Str} {Fm : List U → Cs → R U} {C : Nat}
/-- the right operand is of the class, or of a built-in kind -/
def rightOk (C : Nat) (c : Cs) (v : U) : Bool := match oview c v with
  | some (C', _, _) => C' == C
  | none => (match tagU c v with
    | some t => decide (t ∈ tags)
    | none => false)
def fGd (C : Nat) (f : U → U → Cs → Option (U × Cs)) (u v : U) (c : Cs) : Option (U × Cs) := if rightOk C c v = true then f u v c else none
/-- what comparisons ask of the class at C -/
structure CmpC (K : PySem.W.Frag) (C : Addr) : Prop where
  ic : IsiC K C
  nf : PySem.W.notFirst K C (.ref C) = true
  nt : ∀ t ∈ tags, PySem.W.notFirst K C (.type t) = true
abbrev RtD (K : PySem.W.Frag) (C : Addr) : V → Hp → Prop := fun y H => ∃ t, TyOf K H y t ∧ PySem.W.notFirst K C t = true
theorem rightOk_ok {w : Wd} {c : Cs} {H : Hp} {v : U} {y : V} (cc : CmpC g.K (g.cls C)) (hh : HRel g w c H) (r : UV g w v y) (e : rightOk C c v = true) : RtD g.K (g.cls C) y H := by
  unfold rightOk at e
  split at e
  · rename_i C' ns xs eo
    cases (beq_iff_eq.mp e)
    obtain ⟨a, dx, vs, rfl, hA, hl, rs⟩ := oview_ok hh r eo
    exact ⟨_, .ins hA cc.ic.cl cc.ic.ha cc.ic.hn cc.ic.htk cc.ic.hm, cc.nf⟩
  · split at e
    · rename_i t et
      exact ⟨_, tag_ok hh r et, cc.nt t (of_decide_eq_true e)⟩
    · cases e
theorem gd2_u (cc : CmpC g.K (g.cls C)) : OpU g (fGd C (fOwn2 C Fm)) (rOwn2 g C Fm (RtD g.K (g.cls C))) := by
  intro w c H u v x y z c' Q hh ru rv e h
  unfold fGd at e
  split at e
  · rename_i k
    exact fOwn2_ok hh ru rv e (rightOk_ok cc hh rv k) h
  · cases e
theorem gdN_u (cc : CmpC g.K (g.cls C)) : OpU g (fGd C (fOwnN C Fm)) (rOwnN g C Fm (RtD g.K (g.cls C))) := by
  intro w c H u v x y z c' Q hh ru rv e h
  unfold fGd at e
  split at e
  · rename_i k
    exact fOwnN_ok hh ru rv e (rightOk_ok cc hh rv k) h
  · cases e
/-- + - * of two instances -/
def bothOk (C : Nat) (f : U → U → Cs → Option (U × Cs)) (u v : U) (c : Cs) : Option (U × Cs) := match oview c v with
  | some (C', _, _) => if C' = C then f u v c else none
  | none => none
theorem both_u : OpU g (bothOk C (fOwn2 C Fm)) (rOwn2 g C Fm fun y H => ∃ b dy fy, y = .ref b ∧ H b = some (.ins (g.cls C) dy fy)) := by
  intro w c H u v x y z c' Q hh ru rv e h
  unfold bothOk at e
  split at e
  · rename_i C' ns xs eo
    split at e
    · rename_i hC
      subst hC
      obtain ⟨b, dy, vs, rfl, hB, hl, rs⟩ := oview_ok hh rv eo
      exact fOwn2_ok hh ru rv e ⟨b, dy, _, rfl, hB⟩ h
    · cases e
  · cases e
/-- str(x) of a number alone -/
def fStrI (us : List U) (c : Cs) : Option (U × Cs) := match us with
  | [.int i] => if i.natAbs.log2 < 1920 then some (.str (toString i), c) else none
  | _ => none
theorem strI_u : CallU g fStrI (fun xs H Q => ∃ i, xs = [.int i] ∧ i.natAbs.log2 < 1920 ∧ Q (.str (toString i)) H) := by
  intro w c H us vs z c' Q hh r e h
  unfold fStrI at e
  split at e
  · obtain ⟨v, rfl, rv⟩ := uvs1 r
    cases (show v = _ from rv)
    split at e
    · cases e; exact ⟨_, rfl, by assumption, Then.here h hh rfl⟩
    · cases e
  · cases e
/-! ### x is None -/
def isNon : U → Bool
  | .non => true
  | _ => false
theorem isNon_ok {w : Wd} {u : U} {x : V} (r : UV g w u x) : decide (x = .non) = isNon u := by
  cases u with
  | non => cases (show x = _ from r); rfl
  | bl b => cases (show x = _ from r); rfl
  | int b => cases (show x = _ from r); rfl
  | str b => cases (show x = _ from r); rfl
  | ty b => cases (show x = _ from r); rfl
  | exv => obtain ⟨a, _, rfl⟩ := r; rfl
  | err C' ns xs => obtain ⟨a, _, _, rfl, _⟩ := r; rfl
  | cel n => obtain ⟨a, _, rfl⟩ := r; rfl
  | tup xs => obtain ⟨a, _, rfl, _⟩ := r; rfl
  | lst xs => obtain ⟨a, _, rfl, _⟩ := r; rfl
  | slst xs => obtain ⟨a, _, rfl, _⟩ := r; rfl
  | dK ks xs => obtain ⟨a, _, rfl, _⟩ := r; rfl
  | dT ks xs => obtain ⟨a, _, rfl, _⟩ := r; rfl
  | obj C' ns xs => obtain ⟨a, _, _, rfl, _⟩ := r; rfl
def fIsN (neg : Bool) (u v : U) (c : Cs) : Option (U × Cs) := match v with
  | .non => some (.bl (if neg then !isNon u else isNon u), c)
  | _ => none
theorem isN_u : OpU g (fIsN false) (fun x y H Q => y = .non ∧ Q (.bl (decide (x = .non))) H) := by
  intro w c H u v x y z c' Q hh ru rv e h
  unfold fIsN at e
  split at e
  · cases e
    exact ⟨rv, by rw [isNon_ok ru]; exact Then.here h hh rfl⟩
  · cases e
theorem notN_u : OpU g (fIsN true) (fun x y H Q => y = .non ∧ Q (.bl (!decide (x = .non))) H) := by
  intro w c H u v x y z c' Q hh ru rv e h
  unfold fIsN at e
  split at e
  · cases e
    exact ⟨rv, by rw [isNon_ok ru]; exact Then.here h hh rfl⟩
  · cases e
/-! ### {} -/
def mDict0 (mode : Nat) : ME := fun _ c => if mode = 2 then .ok (.cel c.length) (c ++ [.dK [] []]) else .ok (.dK [] []) c
theorem de_dict0 {Wx : WX} {pos : Pos} (mode : Nat) : DE X g Wx (.Dict [] [] pos) (mDict0 mode) := by
  refine pe_imp pe_dnewK fun σ H Q ⟨w, τ, c, hs, hh, q⟩ => ?_
  unfold mDict0 at q
  split at q
  · exact Then.newC q hh rfl fun p w' e => ⟨[], upd_same, rfl, rfl⟩
  · exact Then.newF q hh fun p w' e r => ⟨p, [], rfl, r, rfl, rfl⟩
/-! ### facts for the answers of isinstance and except -/
theorem kitOne_of {K : PySem.W.Frag} {t : Value} {Ca : Addr} {b : Bool} (hne : (t == .ref Ca) = false) (h1 : PySem.W.typeIn K (.ref Ca) = some (.type "type")) (h2 : PySem.W.isClsIn K Ca = true) (h3 : PySem.W.subIn K t (.ref Ca) = some b) : PySem.W.kitOne K t (.ref Ca) = some b := by
  have h2' : (PySem.W.clsIn K Ca).isSome = true := h2
  unfold PySem.W.kitOne PySem.W.kitCls
  rw [hne]
  dsimp only
  rw [h2', h1]
  simp [h3]
theorem kitOne_self {K : PySem.W.Frag} {Ca : Addr} : PySem.W.kitOne K (.ref Ca) (.ref Ca) = some true := by
  unfold PySem.W.kitOne
  simp
theorem exmOne_of {K : PySem.W.Frag} {t : Value} {Ca : Addr} {b : Bool} (h0 : PySem.W.subIn K (.ref Ca) (.type "BaseException") = some true) (h1 : PySem.W.typeIn K (.ref Ca) = some (.type "type")) (h2 : PySem.W.isClsIn K Ca = true) (h3 : PySem.W.subIn K t (.ref Ca) = some b) : PySem.W.exmOne K t (.ref Ca) = some b := by
  have h2' : (PySem.W.clsIn K Ca).isSome = true := h2
  unfold PySem.W.exmOne PySem.W.kitCls
  rw [h0]
  dsimp only
  rw [h2', h1]
  simp [h3]
theorem kitOne_ofT {K : PySem.W.Frag} {Ca : Addr} {S : String} {b : Bool} (hS : PySem.W.kitMeta S = true) (h3 : PySem.W.subIn K (.ref Ca) (.type S) = some b) : PySem.W.kitOne K (.ref Ca) (.type S) = some b := by
  have hne : (Value.ref Ca == Value.type S) = false := Bool.eq_false_iff.mpr fun q => by cases beq_iff_eq.mp q
  unfold PySem.W.kitOne PySem.W.kitCls
  rw [hne]
  simp [hS, h3]
/-! ### isinstance(x, T), T built in, x an instance too -/
def mIsiO (S : String) (ti : List (Nat × Bool)) (m : ME) : ME := fun τ c => (m τ c).bind fun u c1 => match oview c1 u with
  | some (C, _, _) => (match ti.lookup C with | some b => .ok (.bl b) c1 | none => .bad)
  | none => (match tagU c1 u with
    | some t => if t ∈ tags then .ok (.bl (isT t S)) c1 else .bad
    | none => .bad)
theorem de_isiO {Wx : WX} {e : Expr} {mo : ME} {ti : List (Nat × Bool)} {S : String} {y : Str} {p q2 pos : Pos} (hK : X.K = g.K) (hi : ∀ q ∈ ti, IsiC X.K (g.cls q.1) ∧ PySem.W.kitOne X.K (.ref (g.cls q.1)) (.type S) = some q.2)
    (h : DE X g Wx e mo) (hm : X.mg "isinstance" = none) (hmy : X.mg y = none) (hk : ∀ t ∈ tags, kitB t S = some (isT t S) := by decide +kernel) (hg : Gl X "isinstance" := by rfl) (hgy : Gl X y := by rfl)
    (hvy : bootBuiltins y = some (.type S) := by decide +kernel) (hny : y ≠ "__name__" := by decide) (hdy : (y == ("__debug__" : Str)) = false := by decide)
    (hs1 : starEach [e, .Name y q2] X.env = (false, eval e X.env) :: starEach [.Name y q2] X.env := by rfl) (hs2 : starEach [.Name y q2] X.env = (false, eval (.Name y q2) X.env) :: starEach [] X.env := by rfl)
    (hpl : (backTo pos (starEach [.Name y q2] X.env)).any (·.1) = false := by rfl) : DE X g Wx (.Call (.Name "isinstance" p) [e, .Name y q2] [] pos) (mIsiO S ti mo) := by
  refine pe_imp (pe_callB call_isi hg hm (by decide +kernel) (pa_cons h (pa_cons (pe_bltn (v := .ty S) hgy hmy hvy rfl hny hdy) pa_nil hs2) hs1) (by decide) (by decide) hs1 hpl) fun σ H Q ⟨w, τ, c, hs, hh, q⟩ => ?_
  refine rd_bind q hs hh fun u c1 w1 v H1 e1 h1 r1 s1 q1 => ?_
  cases eo : oview c1 u with
  | some t =>
    obtain ⟨C, ns, xs⟩ := t
    rw [eo] at q1
    dsimp only at q1
    obtain ⟨a, dx, vs, rfl, hA, hl, rs⟩ := oview_ok h1 r1 eo
    cases el : ti.lookup C with
    | none => rw [el] at q1; exact q1.elim
    | some b =>
      rw [el] at q1
      obtain ⟨ic, hk⟩ := hi _ (look_mem el)
      exact ⟨_, _, .ref (g.cls C), _, b, rfl, .ty S, .base (.ins hA ic.cl ic.ha ic.hn ic.htk ic.hm), hk, Post.here q1 h1 rfl⟩
  | none =>
    rw [eo] at q1
    dsimp only at q1
    cases et : tagU c1 u with
    | none => rw [et] at q1; exact q1.elim
    | some t =>
      rw [et] at q1
      dsimp only at q1
      split at q1
      · rename_i ht
        have ty := tag_ok h1 r1 et
        rw [← hK] at ty
        exact ⟨_, _, .type t, _, _, rfl, .ty S, .base ty, kit_ty (hk t ht), Post.here q1 h1 rfl⟩
      · exact q1.elim
end
end Mi
namespace Mi
open PySem PySem.Spec PyProof.Rows L2 PySem.Calls

/-- what the written part says of an error's class and its __init__, which hands all to super().__init__ and then stores it -/
structure ErrI (P : Program) (K : PySem.W.Frag) (mg : Str → Option Value) (C f : Addr) (fd : FuncData) (st : Stmt) (qual : Str) : Prop where
  ex : ∃ (oc : Value) (od : Option Addr) (kV doc pm : Value) (an : Option Addr) (cda : Addr) (ct : Value) (cc : Addr) (osl : Array (Option Value)),
    fd = PySem.W.ksFn "__init__" qual (defArgs st) (defBody st) (defScope st) .none kV doc pm an (.ref cda) ct cc ∧ K.lookup f = some ⟨oc, od, .func fd, osl⟩ ∧ PySem.W.codeIn K (.ref cda) qual = true ∧
    (∃ (ccl : Value) (cdd : Option Addr) (vs : Array Value) (ccs : Array (Option Value)) (file : Str) (tf : Tok), K.lookup cda = some ⟨ccl, cdd, .fields vs, ccs⟩ ∧ vs[2]? = some (.str file tf) ∧ ((P.main.file : Str) == file) = true) ∧
    ∃ (cl : Value) (cld : Option Addr) (csl : Array (Option Value)), K.lookup cc = some ⟨cl, cld, .cell (some (.ref C)), csl⟩
  top : (P.main.scope.names.lookup ("super" : Str)).isSome = false
  su : mg "super" = none
  opq : PySem.W.nsIn K cStatics "thirdparty.any" = some none
  hm : PySem.W.ks_superIn K C C "__init__" = some (some (.builtin "ValueError.__init__"))
  hB : PySem.W.subIn K (.ref C) (.type "ValueError") = some true
  q : ∃ bmB, ExcBaseFacts "ValueError" "ValueError.__new__" "ValueError.__init__" bmB ∧ PySem.W.excInitIn K C bmB "ValueError.__new__" = true
  T : OexC K C
  iC : PySem.W.findIn K (.ref C) "__init__" = some (some (.ref f))
  tI : PySem.W.typeIn K (.ref f) = some (.type "function")
section
variable {P : Program} {w : World} {K : PySem.W.Frag} {mg : Str → Option Value} {base : Heap} {A : Around} {outer : List Env} {s : Shared} {H : Hp} {C f x : Addr} {fd : FuncData} {st : Stmt} {qual : Str} {t0 : Addr} {R : Result → Shared → Prop}
/-- one object of the heap hidden -/
abbrev hid (h : Heap) (x : Addr) : Heap := PySem.W.hideAll h [x]
theorem hid_keep {h : Heap} {b : Addr} {o : Obj} (e : h.get? b = some o) (ne : b ≠ x) : (hid h x).get? b = some o := PySem.W.hideAll_get [x] e (by simpa using ne)
/-- the first row of the __init__: super().__init__(..) -/
theorem err_super {us : List Value} {args : Args} {ns : List Str} {rest : List Stmt} {es : List Expr} {p0 p1 p2 p3 p4 : Pos} (e0 : Env0 P w K mg base A outer s H) (I : ErrI P K mg C f fd st qual) (hd : A.depth < recursionLimit)
    (hx : s.heap.get? x = some (HandSPX.excO C t0)) (hb : ∀ b o, base.get? b = some o → b ≠ x) (hu : us.length ≤ 1000)
    (hbody : defBody st = .Expr (.Call (.Attribute (.Call (.Name "super" p0) [] [] p1) "__init__" p2) es [] p3) p4 :: rest)
    (hbind : BindsTo s fd args (ns.zip (.ref x :: us)))
    (hpar : (fd.params.posonlyargs ++ fd.params.args).head?.map (·.arg) = some ("self" : Str)) (hself : ((ns.zip (Value.ref x :: us)).reverse.lookup ("self" : Str)) = some (Value.ref x))
    (k1 : (defScope st).kind = .function) (k2 : (defScope st).isCoroutine = false) (k3 : (defScope st).isGenerator = false) (k4 : (defScope st).names.lookup ("super" : Str) = some .globalImplicit) (k5 : (defScope st).names.lookup ("__class__" : Str) = some .free)
    (k6 : (defScope st).names.lookup ("self" : Str) = some .local) (k7 : ∀ y ∈ ns, (defScope st).names.lookup y = some .local) (k8 : ∀ y ∈ (defScope st).names, y.2 ≠ .cell)
    (hi : ∀ L cda cc, interactive (PySem.W.ksEnv qual (defScope st) L f (.ref cda) cc) = false)
    (he : ∀ L cda cc, ∃ pl, eval (.Call (.Attribute (.Call (.Name "super" p0) [] [] p1) "__init__" p2) es [] p3) (PySem.W.ksEnv qual (defScope st) L f (.ref cda) cc) = (attributeBase (.Call (.Name "super" p0) [] [] p1) "__init__" (PySem.W.ksEnv qual (defScope st) L f (.ref cda) cc) (eval (.Call (.Name "super" p0) [] [] p1) (PySem.W.ksEnv qual (defScope st) L f (.ref cda) cc)) >>= fun ov => standAt p2.atName >>= fun _ => holding [ov] (getMethod ov "__init__" pl) >>= fun q => callWith p3 q.1 q.2 (backTo p3 (starEach es (PySem.W.ksEnv qual (defScope st) L f (.ref cda) cc))) []))
    (hev : ∀ (L cda cc : Addr) (M : Model) (A' : Around) (E : Value → Shared → Prop) (s1 : Shared) (Q : Args → Shared → Prop) (u : Addr), s1.heap.Ns L (fun y => (ns.zip (Value.ref x :: us)).reverse.lookup y) → Q ⟨us, []⟩ s1 → wpAny M A' (evalArgs (.ref u) true (backTo p3 (starEach es (PySem.W.ksEnv qual (defScope st) L f (.ref cda) cc))) []) Q E s1)
    (hpl : ∀ L cda cc, (backTo p3 (starEach es (PySem.W.ksEnv qual (defScope st) L f (.ref cda) cc))).any (·.1) = false)
    (hR : ∀ (L : Addr) (cda cc : Addr) (s2 : Shared) (t1 : Addr), PySem.W.Frag.In K s2.heap → s2 = { s with heap := s2.heap, toks := s2.toks } → s2.heap.Ns L (fun y => (ns.zip (Value.ref x :: us)).reverse.lookup y) → s.heap.objs.size < s2.heap.objs.size →
      (∀ b o, b ≠ x → s.heap.get? b = some o → s2.heap.get? b = some o) → s2.heap.get? x = some (HandSPX.excO C t1) →
      wpAny (model P w) (A.deeper (PySem.W.ksEnv qual (defScope st) L f (.ref cda) cc)) (execs rest (PySem.W.ksEnv qual (defScope st) L f (.ref cda) cc)) (fun fl s' => R (.ok (.ret (match fl with | .ret v => v | _ => .none))) s') (fun _ _ => False) s2) :
    codeAny (model P w) A (.call (.ref f) args) R s := by
  obtain ⟨oc, od, kV, doc, pm, an, cda, ct, cc, osl, rfl, lk, hcd, ⟨ccl, cdd, vs, ccs, file, tf, hcode, hvs, hfile⟩, ⟨cl, cld, csl, hcell⟩⟩ := I.ex
  have xlt : x < s.heap.objs.size := Heap.lt_size hx
  -- what is kept
  have kb : ∀ b o, base.get? b = some o → (hid s.heap x).get? b = some o := fun b o e => hid_keep (e0.bs b o e).1 (hb b o e)
  have X₀ : K.In (hid s.heap x) := e0.mod.kin.keeps kb
  have KX : K.In s.heap := e0.mod.kin.keeps fun y z e => (e0.bs y z e).1
  have lim : s.heap.NoLimit := e0.mod.nolimit.keeps fun y z e => (e0.bs y z e).1
  have hloc : ∀ y ∈ ns.zip (Value.ref x :: us), (defScope st).names.lookup y.1 = some .local := fun y hy => k7 _ (List.of_mem_zip (show (y.1, y.2) ∈ _ from hy)).1
  refine PySem.ks_codeAny_call_defAt (binds := ns.zip (.ref x :: us)) hd (KX _ _ lk) rfl lim (PySem.W.codeRec_of KX hcd) rfl hbind k8 hloc (fun h₁ hns hk₁ => ?_) k2 k3 k1
  have henv : callEnv (PySem.W.ksFn "__init__" qual (defArgs st) (defBody st) (defScope st) .none kV doc pm an (.ref cda) ct cc) s.heap.objs.size f = PySem.W.ksEnv qual (defScope st) s.heap.objs.size f (.ref cda) cc := rfl
  rw [henv]
  obtain ⟨ar, har, hsn⟩ : ∃ ar, ((PySem.W.ksFn "__init__" qual (defArgs st) (defBody st) (defScope st) .none kV doc pm an (.ref cda) ct cc).params.posonlyargs ++ (PySem.W.ksFn "__init__" qual (defArgs st) (defBody st) (defScope st) .none kV doc pm an (.ref cda) ct cc).params.args).head? = some ar ∧ ar.arg = ("self" : Str) := by
    revert hpar
    cases ((PySem.W.ksFn "__init__" qual (defArgs st) (defBody st) (defScope st) .none kV doc pm an (.ref cda) ct cc).params.posonlyargs ++ (PySem.W.ksFn "__init__" qual (defArgs st) (defBody st) (defScope st) .none kV doc pm an (.ref cda) ct cc).params.args).head? with
    | none => intro h; cases h
    | some a => intro h; exact ⟨a, rfl, Option.some.inj h⟩
  have F1 : Fr (hid s.heap x) s.heap.objs.size h₁ (fun y => (ns.zip (Value.ref x :: us)).reverse.lookup y) := ⟨hns, fun b o e => hk₁ b o (PySem.W.of_hideAll _ e), Nat.le_of_eq (PySem.W.hideAll_size _ _)⟩
  have N1 : News (hid s.heap x) s.heap.objs.size h₁ [(x, PySem.W.excObj C t0 none .none)] := fun p hp => by
    cases List.mem_singleton.mp hp
    exact ⟨hk₁ _ _ hx, Nat.ne_of_lt xlt, PySem.W.hideAll_none _ (by simp)⟩
  have hmro : ∃ cdD, PySem.W.clsIn K C = some cdD := by
    cases hc : PySem.W.clsIn K C with
    | none => have := I.hm; unfold PySem.W.ks_superIn at this; rw [hc] at this; cases this
    | some cd => exact ⟨cd, rfl⟩
  obtain ⟨cdD, hD⟩ := hmro
  obtain ⟨bmB, FB, qC⟩ := I.q
  rw [hbody]
  obtain ⟨pl, he⟩ := he s.heap.objs.size cda cc
  refine PySem.ks_wpAt_execs_cons (PySem.ks_wpAt_Expr_any (PySem.ks_wpAt_MethodCall (name := "__init__") (pl := pl) ?_ he) (hi _ _ _))
  -- super()
  obtain ⟨oD, hD1, hD2⟩ : ∃ oD, (hid s.heap x).get? C = some oD ∧ oD.data = .cls cdD := by
    unfold PySem.W.clsIn at hD
    split at hD
    · rename_i c d cd' sl ho
      cases hD
      exact ⟨_, X₀ _ _ ho, rfl⟩
    · cases hD
  have X1 : K.In h₁ := X₀.keeps F1.keep
  have hxh₁ := hk₁ _ _ hx
  refine PySem.ks_wpAt_super_base (fd := PySem.W.ksFn "__init__" qual (defArgs st) (defBody st) (defScope st) .none kV doc pm an (.ref cda) ct cc) k4 k5 (by decide) rfl (X1 _ _ lk) rfl har rfl (X1 _ _ hcode) rfl hvs hfile I.top ?_
  obtain ⟨mb, hmb, hbt⟩ := e0.mod.blt
  have k1b : ∀ b o, base.get? b = some o → h₁.get? b = some o := fun b o e => F1.keep b o (kb b o e)
  refine PySem.W.ks_loadName_global k1 k4 (PySem.Calls.loadGlobal_builtin (env := PySem.W.ksEnv qual (defScope st) s.heap.objs.size f (.ref cda) cc) (e0.mod.glob.keeps k1b) I.su (hmb.keeps k1b) ((hbt _ (by decide +kernel)).trans PyProof.Rows.Boot.«super») ⟨rfl, ?_⟩)
  refine wpAny_loadName_free k1 k5 rfl ⟨_, X1 _ _ hcell, rfl⟩ ?_
  rw [hsn]
  refine wpAny_loadName_local k1 k6 F1.ns hself ?_
  refine PySem.ks_wpAny_isType_cls (F1.keep _ _ hD1) hD2 ⟨rfl, ?_⟩
  have hsubC : PySem.W.mroIn K C (.ref C) = some true := by
    obtain ⟨nm, q, N, bs, bm, sn, sub, ab, co, dd, k0, k1, k2, k3, k5, hC, hbm⟩ := I.T.cls
    have hcl : PySem.W.clsIn K C = some { name := nm, bases := bs, mro := .ref C :: bm, ns := N, qualname := q, hasDict := true, slotNames := sn, subclasses := sub, abstract := ab, collection := co, hasDel := false } := by unfold PySem.W.clsIn; rw [hC] <;> rfl
    unfold PySem.W.mroIn
    rw [hcl, Option.bind_some]
    simp
  refine PySem.ks_wpAny_call_super (F1.keep _ _ hD1) hD2 hxh₁ rfl (fun c e => by cases e) (PySem.W.looks_mroIn X1 hsubC) (fun h₂ e2 k2' => ?_)
  obtain ⟨F2, N2, l2⟩ := PySem.W.ks_newsPush (s := { s with heap := h₁, toks := s.toks + (ns.zip (Value.ref x :: us)).length }) F1 N1 rfl e2 k2'
  have I2 : PySem.W.InstAt h₂ x (PySem.W.excObj C t0 none .none) C none := PySem.W.InstAt.of_exc0 N2 (by simp)
  refine PySem.W.kxs_method PySem.W.kxs_ValueError F2 X₀ N2 List.mem_cons_self I2 I.opq I.hm I.hB (by decide) (fun u h₃ F3 N3 l3 => ?_)
  have ux : u ≠ x := by have := l3 (x, PySem.W.excObj C t0 none .none) (by simp); exact Nat.ne_of_gt this
  have sox : h₁.objs.size ≠ x := by have := l2 (x, PySem.W.excObj C t0 none .none) (by simp); exact Nat.ne_of_gt this
  refine PySem.W.kxs_callWith (i := "ValueError.__init__") (x := x) (hpl _ _ _) (hev _ _ _ _ _ _ _ _ _ F3.ns ⟨PySem.W.kxs_at N3 List.mem_cons_self, ?_⟩)
  refine PySem.W.kxs_call F3 X₀ N3 FB qC List.mem_cons_self (.tail ux (.tail sox (.head (by simp)))) (by show us.length ≤ sizeLine; rw [sizeLine_eq]; omega) (fun t1 h₄ F4 N4 l4 => ?_)
  have N4x := N4 (x, PySem.W.excObj C t1 none .none) (by simp)
  refine wpAt_of_wpAny (wpAny_mono (hR s.heap.objs.size cda cc _ t1 (X₀.keeps F4.keep) rfl F4.ns ?_ (fun b o ne e => F4.keep b o (hid_keep e ne)) N4x.1) (fun _ _ h => h) fun _ _ z => z.elim)
  obtain ⟨oL, _, _, hL, _⟩ := F4.ns
  exact Heap.lt_size hL
/-- an exception's first field -/
theorem err_set1 {A' : Around} {E : Value → Shared → Prop} {s2 : Shared} {F : Str} {v : Value} {t1 : Addr} {Q : Unit → Shared → Prop} (KX : K.In s2.heap) (T : OexC K C) (hx : s2.heap.get? x = some (HandSPX.excO C t1)) (hno : PySem.W.findIn K (.ref C) F = some none)
    (h : ∀ h' tk' dx, (∀ b o, b ≠ x → s2.heap.get? b = some o → h'.get? b = some o) → s2.heap.objs.size ≤ dx → dx ≠ x → h'.get? x = some { cls := .ref C, dict := some dx, data := .fields #[.ref t1, .none, .none, .none, .bool false, .none] } →
      h'.Ns1 dx (fun y => if y = F then some v else none) → Q () { s2 with heap := h', toks := tk' }) : wpAny (model P w) A' (setAttr (.ref x) F v) Q E s2 := by
  obtain ⟨nm, q, N, bs, bm, sn, sub, ab, co, dd, k0, k1, k2, k3, k5, hC, hbm⟩ := T.cls
  have hcl : PySem.W.clsIn K C = some { name := nm, bases := bs, mro := .ref C :: bm, ns := N, qualname := q, hasDict := true, slotNames := sn, subclasses := sub, abstract := ab, collection := co, hasDel := false } := by unfold PySem.W.clsIn; rw [hC] <;> rfl
  obtain ⟨hp, g, d, t, os⟩ := s2
  refine PySem.W.set_plain KX (ox := HandSPX.excO C t1) (od := none) ⟨hx, rfl, rfl, trivial⟩ T.sa (HandSPX.exc_osa KX hx hcl hbm rfl hno fun h' tk' dx k dn ne hx' hn => ?_)
  exact h h' tk' dx k dn ne hx' hn
/-- .. and a further one -/
theorem err_set2 {A' : Around} {E : Value → Shared → Prop} {s2 : Shared} {F : Str} {v : Value} {t1 dx : Addr} {m0 : Str → Option Value} {nl : List Str} {Q : Unit → Shared → Prop} (KX : K.In s2.heap) (T : OexC K C)
    (hx : s2.heap.get? x = some { cls := .ref C, dict := some dx, data := .fields #[.ref t1, .none, .none, .none, .bool false, .none] }) (hns : s2.heap.Ns1 dx m0) (hw : Within m0 nl) (hz : nl.length ≤ 1000) (hno : PySem.W.findIn K (.ref C) F = some none)
    (h : ∀ h' tk', (∀ b o, b ≠ dx → s2.heap.get? b = some o → h'.get? b = some o) → h'.Ns1 dx (fun y => if y = F then some v else m0 y) → Q () { s2 with heap := h', toks := tk' }) : wpAny (model P w) A' (setAttr (.ref x) F v) Q E s2 := by
  obtain ⟨nm, q, N, bs, bm, sn, sub, ab, co, dd, k0, k1, k2, k3, k5, hC, hbm⟩ := T.cls
  have hcl : PySem.W.clsIn K C = some { name := nm, bases := bs, mro := .ref C :: bm, ns := N, qualname := q, hasDict := true, slotNames := sn, subclasses := sub, abstract := ab, collection := co, hasDel := false } := by unfold PySem.W.clsIn; rw [hC] <;> rfl
  obtain ⟨hp, g, d, t, os⟩ := s2
  obtain ⟨oD, _, _, hoD, _⟩ := hns.count hw
  refine PySem.W.set_plain KX (ox := { cls := .ref C, dict := some dx, data := .fields #[.ref t1, .none, .none, .none, .bool false, .none] }) (od := some oD) ⟨hx, rfl, rfl, hoD⟩ T.sa ?_
  exact OEX.osa_old KX hx hns hw hz hcl hbm rfl hno fun h' tk' k hn => h h' tk' k hn
/-- the end of the __init__, as the layer's own heaps see it -/
theorem err_un {fs0 : List Addr} {h h' : Heap} {a dx : Addr} {fs : List (Str × V)} (ea : H a = some (exo a C none)) (hnd : H dx = none) (hd0 : h.objs.size ≤ dx) (k : ∀ b o, b ≠ a → b ≠ dx → h.get? b = some o → h'.get? b = some o) (hx' : ∃ o, h'.get? a = some o) :
    Un fs0 [] H (upd (upd H dx (exd dx fs)) a (exo a C (some dx))) h h' := by
  have nd : ∀ {b : Addr} {o : Obj}, h.get? b = some o → b ≠ dx := fun q => Nat.ne_of_lt (Nat.lt_of_lt_of_le (Heap.lt_size q) hd0)
  have na : ∀ {b : Addr}, H b = none → b ≠ a := fun n z => by rw [z, ea] at n; cases n
  have ot : ∀ {b : Addr} {o : HO}, H b = some o → o ≠ exo a C none → upd (upd H dx (exd dx fs)) a (exo a C (some dx)) b = some o := fun {b o} q ne => by
    have hba : b ≠ a := fun z => by rw [z, ea] at q; exact ne (Option.some.inj q).symm
    rw [upd_ne hba, upd_ne (ne_of_none q hnd)]; exact q
  refine ⟨fun b o q n _ _ => k b o (na n) (nd q) q, fun b o q n _ _ => ⟨o.slots, k b o (na n) (nd q) q⟩, fun b o q n _ => by rw [upd_ne (na n), upd_ne (nd q)]; exact n, fun b o q _ => ?_, fun b xs q => ot q fun z => exo_tup z.symm, fun b o u q => ot q fun z => exo_frz z.symm, fun b ps q => ⟨#[], by rw [ot q fun z => exo_tbl z.symm]; simp⟩⟩
  by_cases hb : b = a
  · subst hb; exact hx'
  · exact ⟨o, k b o hb (nd q) q⟩
theorem err_hok {h h' : Heap} {a dx t1 : Addr} {fs : List (Str × V)} {mA : Str → Option Value} (ok : HOk P w H h) (ea : H a = some (exo a C none)) (hnd : H dx = none) (hd0 : h.objs.size ≤ dx) (k : ∀ b o, b ≠ a → b ≠ dx → h.get? b = some o → h'.get? b = some o)
    (hx' : h'.get? a = some { cls := .ref C, dict := some dx, data := .fields #[.ref t1, .none, .none, .none, .bool false, .none] }) (hn : h'.Ns1 dx mA) (rel : ∀ f, RelO (fs.lookup f) (mA f)) : HOk P w (upd (upd H dx (exd dx fs)) a (exo a C (some dx))) h' := fun b o q => by
  have nd : ∀ {b : Addr} {o : Obj}, h.get? b = some o → b ≠ dx := fun q => Nat.ne_of_lt (Nat.lt_of_lt_of_le (Heap.lt_size q) hd0)
  by_cases hb : b = a
  · subst hb
    rw [upd_same] at q; cases q; exact exo_ok hx'
  · rw [upd_ne hb] at q
    by_cases hd : b = dx
    · subst hd
      rw [upd_same] at q; cases q; exact exd_ok hn rel
    · rw [upd_ne hd] at q
      refine (ok b o q).stay (fun c v hc z => k c v ?_ (nd z) z) (fun c hc => ?_) fun c xs hc => ?_
      · rcases hc with hc | hc
        · rw [hc]; exact hb
        · exact at_ne ea hc exo_own
      · rw [upd_ne (at_ne ea hc exo_own), upd_ne (ne_of_none hc hnd)]; exact hc
      · rw [upd_ne (at_ne ea hc exo_tup), upd_ne (ne_of_none hc hnd)]; exact hc
/-- what the __init__ does, one field -/
def spE1 (C : Addr) (F : Str) : Sp := fun vs H Q _ => ∃ a v, vs = [.ref a, v] ∧ H a = some (exo a C none) ∧ ∀ dx, H dx = none → dx ≠ a → Q .non (upd (upd H dx (exd dx [(F, v)])) a (exo a C (some dx)))
def spE2 (C : Addr) (F G : Str) : Sp := fun vs H Q _ => ∃ a v u, vs = [.ref a, v, u] ∧ H a = some (exo a C none) ∧ ∀ dx, H dx = none → dx ≠ a → Q .non (upd (upd H dx (exd dx [(G, u), (F, v)])) a (exo a C (some dx)))
theorem err_fn1 {CX : CXT} {k : Nat} {n F : Str} {p0 p1 p2 p3 p4 p5 q1 q2 q3 q4 : Pos} (I : ErrI P K mg C f fd st qual)
    (hbody : defBody st = [.Expr (.Call (.Attribute (.Call (.Name "super" p0) [] [] p1) "__init__" p2) [.Name n p5] [] p3) p4, .Assign [.Attribute (.Name "self" q1) F q2] (.Name n q3) q4])
    (hno : PySem.W.findIn K (.ref C) F = some none) (hn : n ≠ "self") (hd1 : (n == ("__debug__" : Str)) = false)
    (hpar : (fd.params.posonlyargs ++ fd.params.args).head?.map (·.arg) = some ("self" : Str))
    (k1 : (defScope st).kind = .function) (k2 : (defScope st).isCoroutine = false) (k3 : (defScope st).isGenerator = false) (k4 : (defScope st).names.lookup ("super" : Str) = some .globalImplicit) (k5 : (defScope st).names.lookup ("__class__" : Str) = some .free)
    (k6 : (defScope st).names.lookup ("self" : Str) = some .local) (k7 : (defScope st).names.lookup n = some .local) (k8 : ∀ y ∈ (defScope st).names, y.2 ≠ .cell)
    (hi : ∀ L cda cc, interactive (PySem.W.ksEnv qual (defScope st) L f (.ref cda) cc) = false)
    (he : ∀ L cda cc, ∃ pl, eval (.Call (.Attribute (.Call (.Name "super" p0) [] [] p1) "__init__" p2) [.Name n p5] [] p3) (PySem.W.ksEnv qual (defScope st) L f (.ref cda) cc) = (attributeBase (.Call (.Name "super" p0) [] [] p1) "__init__" (PySem.W.ksEnv qual (defScope st) L f (.ref cda) cc) (eval (.Call (.Name "super" p0) [] [] p1) (PySem.W.ksEnv qual (defScope st) L f (.ref cda) cc)) >>= fun ov => standAt p2.atName >>= fun _ => holding [ov] (getMethod ov "__init__" pl) >>= fun q => callWith p3 q.1 q.2 (backTo p3 (starEach [.Name n p5] (PySem.W.ksEnv qual (defScope st) L f (.ref cda) cc))) [])) :
    FnOk P w K mg base CX k f fd ["self", n] (spE1 C F) := by
  refine ⟨fun vs H Q E ⟨a, v, e, _⟩ => by rw [e]; rfl, fun A outer s H args us vs Q E hr e0 hbind hv hsp => ?_⟩
  obtain ⟨a, v, rfl, ea, q⟩ := hsp
  obtain ⟨u, rfl, ru⟩ : ∃ u, us = [.ref a, u] ∧ RelV v u := by
    cases hv with
    | cons r1 r2 => cases r2 with
      | cons r3 r4 => cases r4; cases (show _ = Value.ref a from r1); exact ⟨_, rfl, r3⟩
  obtain ⟨t0, hx⟩ := exo_at e0.hok ea
  have hbx : ∀ b o, base.get? b = some o → b ≠ a := fun b o e z => by have := (e0.bs b o e).2; rw [z, ea] at this; cases this
  have hns : (n == ("self" : Str)) = false := beq_eq_false_iff_ne.mpr hn
  have hsn : ((("self" : Str)) == n) = false := beq_eq_false_iff_ne.mpr (Ne.symm hn)
  have lkS : (List.lookup ("self" : Str) ((["self", n] : List Str).zip [Value.ref a, u]).reverse) = some (Value.ref a) := by
    show List.lookup ("self" : Str) [(n, u), ("self", Value.ref a)] = _
    rw [List.lookup_cons, hsn]; rfl
  have lkN : (List.lookup n ((["self", n] : List Str).zip [Value.ref a, u]).reverse) = some u := by
    show List.lookup n [(n, u), ("self", Value.ref a)] = _
    rw [List.lookup_cons, beq_self_eq_true]
  refine err_super (us := [u]) (ns := ["self", n]) e0 I hr.depth hx hbx (by simp) hbody hbind hpar lkS k1 k2 k3 k4 k5 k6 (fun y hy => ?_) k8 hi he (fun L cda cc M A' E s1 Q u' hN hQ => ?_) (fun L cda cc => rfl) (fun L cda cc s2 t1 KX es hN hsz hk hx2 => ?_)
  · simp only [List.mem_cons, List.not_mem_nil, or_false] at hy
    rcases hy with rfl | rfl
    · exact k6
    · exact k7
  · refine evalArgs_plain (rest := []) (spliced_cons (wpAny_Name (wpAny_loadName_local k1 k7 hN lkN (spliced_nil hQ)) hd1))
  · refine wpAny_execs_cons (plainObj_wpAny_Assign_Attribute (wpAny_Name (wpAny_loadName_local k1 k7 hN lkN (wpAny_Name (wpAny_loadName_local k1 k6 hN lkS ?_) (by decide))) hd1))
    refine err_set1 KX I.T hx2 hno fun h' tk' dx kk dn dne hx' hn' => ?_
    refine wpAny_execs_nil ?_
    have hsz2 : s.heap.objs.size ≤ dx := by omega
    have hnd : H dx = none := e0.hok.fresh hsz2
    have kk2 : ∀ b o, b ≠ a → b ≠ dx → s.heap.get? b = some o → h'.get? b = some o := fun b o na _ e => kk b o na (hk b o na e)
    have hrel : ∀ g, RelO (([(F, v)] : List (Str × V)).lookup g) (if g = F then some u else none) := relO_put (fs := []) ru fun g => True.intro
    rw [es]
    exact ⟨.non, _, rfl, e0.bare, err_un ea hnd hsz2 kk2 ⟨_, hx'⟩, err_hok e0.hok ea hnd hsz2 kk2 hx' hn' hrel, rfl, q dx hnd dne⟩
theorem err_fn2 {CX : CXT} {k : Nat} {n F m G : Str} {p0 p1 p2 p3 p4 p5 p6 q1 q2 q3 q4 q5 q6 q7 q8 : Pos} (I : ErrI P K mg C f fd st qual)
    (hbody : defBody st = [.Expr (.Call (.Attribute (.Call (.Name "super" p0) [] [] p1) "__init__" p2) [.Name n p5, .Name m p6] [] p3) p4, .Assign [.Attribute (.Name "self" q1) F q2] (.Name n q3) q4, .Assign [.Attribute (.Name "self" q5) G q6] (.Name m q7) q8])
    (hno : PySem.W.findIn K (.ref C) F = some none) (hno2 : PySem.W.findIn K (.ref C) G = some none) (hn : n ≠ "self") (hm : m ≠ "self") (hnm : n ≠ m) (hd1 : (n == ("__debug__" : Str)) = false) (hd2 : (m == ("__debug__" : Str)) = false)
    (hpar : (fd.params.posonlyargs ++ fd.params.args).head?.map (·.arg) = some ("self" : Str))
    (k1 : (defScope st).kind = .function) (k2 : (defScope st).isCoroutine = false) (k3 : (defScope st).isGenerator = false) (k4 : (defScope st).names.lookup ("super" : Str) = some .globalImplicit) (k5 : (defScope st).names.lookup ("__class__" : Str) = some .free)
    (k6 : (defScope st).names.lookup ("self" : Str) = some .local) (k7 : (defScope st).names.lookup n = some .local) (k9 : (defScope st).names.lookup m = some .local) (k8 : ∀ y ∈ (defScope st).names, y.2 ≠ .cell)
    (hi : ∀ L cda cc, interactive (PySem.W.ksEnv qual (defScope st) L f (.ref cda) cc) = false)
    (he : ∀ L cda cc, ∃ pl, eval (.Call (.Attribute (.Call (.Name "super" p0) [] [] p1) "__init__" p2) [.Name n p5, .Name m p6] [] p3) (PySem.W.ksEnv qual (defScope st) L f (.ref cda) cc) = (attributeBase (.Call (.Name "super" p0) [] [] p1) "__init__" (PySem.W.ksEnv qual (defScope st) L f (.ref cda) cc) (eval (.Call (.Name "super" p0) [] [] p1) (PySem.W.ksEnv qual (defScope st) L f (.ref cda) cc)) >>= fun ov => standAt p2.atName >>= fun _ => holding [ov] (getMethod ov "__init__" pl) >>= fun q => callWith p3 q.1 q.2 (backTo p3 (starEach [.Name n p5, .Name m p6] (PySem.W.ksEnv qual (defScope st) L f (.ref cda) cc))) [])) :
    FnOk P w K mg base CX k f fd ["self", n, m] (spE2 C F G) := by
  refine ⟨fun vs H Q E ⟨a, v, v2, e, _⟩ => by rw [e]; rfl, fun A outer s H args us vs Q E hr e0 hbind hv hsp => ?_⟩
  obtain ⟨a, v, v2, rfl, ea, q⟩ := hsp
  obtain ⟨u, u2, rfl, ru, ru2⟩ : ∃ u u2, us = [.ref a, u, u2] ∧ RelV v u ∧ RelV v2 u2 := by
    cases hv with
    | cons r1 r2 => cases r2 with
      | cons r3 r4 => cases r4 with
        | cons r5 r6 => cases r6; cases (show _ = Value.ref a from r1); exact ⟨_, _, rfl, r3, r5⟩
  obtain ⟨t0, hx⟩ := exo_at e0.hok ea
  have hbx : ∀ b o, base.get? b = some o → b ≠ a := fun b o e z => by have := (e0.bs b o e).2; rw [z, ea] at this; cases this
  have hns : (n == ("self" : Str)) = false := beq_eq_false_iff_ne.mpr hn
  have hsn : ((("self" : Str)) == n) = false := beq_eq_false_iff_ne.mpr (Ne.symm hn)
  have hms : (("self" : Str) == m) = false := beq_eq_false_iff_ne.mpr (Ne.symm hm)
  have hnm' : (n == m) = false := beq_eq_false_iff_ne.mpr hnm
  have lkS : (List.lookup ("self" : Str) ((["self", n, m] : List Str).zip [Value.ref a, u, u2]).reverse) = some (Value.ref a) := by
    show List.lookup ("self" : Str) [(m, u2), (n, u), ("self", Value.ref a)] = _
    rw [List.lookup_cons, hms]
    show List.lookup ("self" : Str) [(n, u), ("self", Value.ref a)] = _
    rw [List.lookup_cons, hsn]; rfl
  have lkN : (List.lookup n ((["self", n, m] : List Str).zip [Value.ref a, u, u2]).reverse) = some u := by
    show List.lookup n [(m, u2), (n, u), ("self", Value.ref a)] = _
    rw [List.lookup_cons, hnm']
    show List.lookup n [(n, u), ("self", Value.ref a)] = _
    rw [List.lookup_cons, beq_self_eq_true]
  have lkM : (List.lookup m ((["self", n, m] : List Str).zip [Value.ref a, u, u2]).reverse) = some u2 := by
    show List.lookup m [(m, u2), (n, u), ("self", Value.ref a)] = _
    rw [List.lookup_cons, beq_self_eq_true]
  refine err_super (us := [u, u2]) (ns := ["self", n, m]) e0 I hr.depth hx hbx (by simp) hbody hbind hpar lkS k1 k2 k3 k4 k5 k6 (fun y hy => ?_) k8 hi he (fun L cda cc M A' E s1 Q u' hN hQ => ?_) (fun L cda cc => rfl) (fun L cda cc s2 t1 KX es hN hsz hk hx2 => ?_)
  · simp only [List.mem_cons, List.not_mem_nil, or_false] at hy
    rcases hy with rfl | rfl | rfl
    · exact k6
    · exact k7
    · exact k9
  · refine evalArgs_plain (rest := [(false, _)]) (spliced_cons (wpAny_Name (wpAny_loadName_local k1 k7 hN lkN (spliced_cons (wpAny_Name (wpAny_loadName_local k1 k9 hN lkM (spliced_nil hQ)) hd2))) hd1))
  · refine wpAny_execs_cons (plainObj_wpAny_Assign_Attribute (wpAny_Name (wpAny_loadName_local k1 k7 hN lkN (wpAny_Name (wpAny_loadName_local k1 k6 hN lkS ?_) (by decide))) hd1))
    refine err_set1 KX I.T hx2 hno fun h' tk' dx kk dn dne hx' hn' => ?_
    have hsz2 : s.heap.objs.size ≤ dx := by omega
    have hnd : H dx = none := e0.hok.fresh hsz2
    obtain ⟨oL, esL, epL, hL, rL⟩ := id hN
    have La : L ≠ a := fun z => by
      rw [z, hx2] at hL
      cases hL
      cases rL.1
    have hN' : h'.Ns L (fun y => ((["self", n, m] : List Str).zip [Value.ref a, u, u2]).reverse.lookup y) := ⟨oL, esL, epL, kk _ _ La hL, rL⟩
    have KX' : K.In h' := fun b o e => by
      refine kk b o (fun z => ?_) (KX b o e)
      have h1 := e0.mod.kin b o e
      exact hbx b o h1 z
    refine wpAny_execs_cons (plainObj_wpAny_Assign_Attribute (wpAny_Name (wpAny_loadName_local k1 k9 hN' lkM (wpAny_Name (wpAny_loadName_local k1 k6 hN' lkS ?_) (by decide))) hd2))
    have hrel : ∀ g, RelO (([(F, v)] : List (Str × V)).lookup g) (if g = F then some u else none) := relO_put (fs := []) ru fun g => True.intro
    refine err_set2 (nl := [F]) KX' I.T hx' hn' (within_of hrel) (by simp) hno2 fun h3 tk3 k3' hn3 => ?_
    refine wpAny_execs_nil ?_
    have kk2 : ∀ b o, b ≠ a → b ≠ dx → s.heap.get? b = some o → h3.get? b = some o := fun b o na nd e => k3' b o nd (kk b o na (hk b o na e))
    have hx3 := k3' a _ (Ne.symm dne) hx'
    rw [es]
    exact ⟨.non, _, rfl, e0.bare, err_un ea hnd hsz2 kk2 ⟨_, hx3⟩, err_hok e0.hok ea hnd hsz2 kk2 hx3 hn3 (relO_put ru2 hrel), rfl, q dx hnd dne⟩
end
end Mi
namespace Mi
open PySem PySem.Spec PyProof.Rows L2
/-- an error class with a value, as its __init__ has shown -/
structure ErrV (P : Program) (K : PySem.W.Frag) (mg : Str → Option Value) (x : Str) (C : Addr) (ns : List Str) : Prop where
  gC : mg x = some (.ref C)
  T : OexC K C
  xf : XfC K C
  no : ∀ f ∈ ns, PySem.W.findIn K (.ref C) f = some none
  fn : ∃ (f : Addr) (fd : FuncData) (ps : List Str) (sp : Sp), PySem.W.findIn K (.ref C) "__init__" = some (some (.ref f)) ∧ PySem.W.typeIn K (.ref f) = some (.type "function") ∧ Binds K fd ps [] ∧ (∀ w base, FnOk P w K mg base (L2.CX P w) 0 f fd ps sp) ∧
    ((∃ F, ns = [F] ∧ sp = spE1 C F) ∨ ∃ F G, ns = [G, F] ∧ sp = spE2 C F G)
def msRaiseV (i : Nat) (ns : List Str) (ms : MA) : MS := fun τ c => (ms τ c).bindS τ fun us c1 => .exc ⟨i, ns, us.reverse⟩ τ c1
section
variable {X : Cx} {g : Gc} {Wx : WX} {j i : Nat} {ns : List Str} {x : Str} {p p2 pos : Pos} {e : Expr} {es : List Expr} {ms : MA}
theorem upd_del {H1 : Hp} {a dx : Addr} {o o' o2 o3 : HO} (ha : H1 a = none) (ne : dx ≠ a) : upd (L2.del (upd (upd (upd H1 a o) dx o') a o2) a) dx o3 = upd H1 dx o3 := by
  funext b
  by_cases hb : b = dx
  · subst hb; rw [upd_same, upd_same]
  · rw [upd_ne hb, upd_ne hb]
    by_cases hb2 : b = a
    · subst hb2; rw [del_same, ha]
    · rw [del_ne hb2, upd_ne hb2, upd_ne hb, upd_ne hb2]
theorem ds_raiseV (hc : X.calm = true) (tk : Takes X Wx) (E : ErrV X.prog X.K X.mg x (g.cls i) ns) (hr : Room (j + 1) X.A) (ha : DA X g Wx (e :: es) ms) (hn : ∀ us τ c c', ms τ c = .ok us c' → us.length = ns.length) (hg : Gl X x := by rfl) (hdb : (x == ("__debug__" : Str)) = false := by decide)
    (he : starEach (e :: es) X.env = (false, eval e X.env) :: starEach es X.env := by rfl) (hpl : (backTo p2 (starEach es X.env)).any (·.1) = false := by rfl) :
    DS X g Wx (.Raise (some (.Call (.Name x p) (e :: es) [] p2)) none pos) (msRaiseV i ns ms) := by
  obtain ⟨f, fd, ps, sp, iC, tI, hb, F1, hsp⟩ := E.fn
  refine ps_imp (ps_raise hc tk (pmk_oex E.T iC tI (F1 X.w X.base) (hr.mono (by omega)) hb .nil passL hg E.gC ha hdb he hpl)) fun D σ H ⟨w, τ, c, hs, hh, q⟩ => ?_
  show rd g Wx (UVs g) ms σ H _
  refine ⟨w, τ, c, hs, hh, ?_⟩
  unfold msRaiseV at q
  revert q
  cases hms : ms τ c with
  | exc e c1 => exact fun q w1 cl d H1 x h1 v => q w1 σ cl d H1 x h1 (hs.up x) v
  | bad => exact fun q => q
  | ok us c1 =>
    intro q w1 vs H1 e1 h1 r1
    have hl := hn us τ c c1 hms
    have hlv := r1.length
    have fin : ∀ (dx : Addr) (vs' : List V), H1 dx = none → UVs g w1 us.reverse vs' → ns.length = vs'.length → Wx (.ref (g.cls i)) (some dx) σ (upd H1 dx (.xd (ns.zip vs'))) := fun dx vs' hdx r hl' =>
      q w1 σ (.ref (g.cls i)) (some dx) _ e1 (h1.junk hdx) (hs.up e1) ⟨rfl, .inr ⟨dx, vs', rfl, upd_same, hl', r⟩⟩
    rcases hsp with ⟨F, rfl, rfl⟩ | ⟨F, G, rfl, rfl⟩
    · match us, vs, hl, hlv, r1 with
      | [u], [v], _, _, r1 =>
        obtain ⟨v0, r0, ev, ru, _⟩ := r1
        cases ev
        refine ⟨by simp, fun a hna => ⟨a, v, rfl, upd_same, fun dx hdx hne => ⟨rfl, dx, [(F, v)], upd_same, ?_, ?_, ?_⟩⟩⟩
        · rw [upd_ne hne, upd_same]
        · rw [upd_ne hne] at hdx; exact hdx
        · rw [upd_ne hne] at hdx
          rw [upd_del hna hne]
          exact fin dx [v] hdx ⟨v, [], rfl, ru, rfl⟩ rfl
    · match us, vs, hl, hlv, r1 with
      | [u, u2], [v, v2], _, _, r1 =>
        obtain ⟨v0, r0, ev, ru, v1, r2, ev2, ru2, _⟩ := r1
        cases ev; cases ev2
        refine ⟨by simp, fun a hna => ⟨a, v, v2, rfl, upd_same, fun dx hdx hne => ⟨rfl, dx, [(G, v2), (F, v)], upd_same, ?_, ?_, ?_⟩⟩⟩
        · rw [upd_ne hne, upd_same]
        · rw [upd_ne hne] at hdx; exact hdx
        · rw [upd_ne hne] at hdx
          rw [upd_del hna hne]
          exact fin dx [v2, v] hdx ⟨v2, [v], rfl, ru2, v, [], rfl, ru, rfl⟩ rfl
end
end Mi
namespace Mi
open PySem PySem.Spec PyProof.Rows L2
/-- a clause: the class, the slot of the name, the suite -/
structure Cla where
  c : Value
  i : Option Nat
  ts : Addr → Value → Option Addr → TS
def unS (i : Option Nat) (σ : L2.St) : L2.St := match i with
  | some k => σ.set k none
  | none => σ
def inS (i : Option Nat) (a : Addr) (σ : L2.St) : L2.St := match i with
  | some k => σ.set k (some (.ref a))
  | none => σ
def wCla (K : PySem.W.Frag) (Wo : WX) (D : Ends) : List Cla → WX
  | [] => Wo
  | q :: r => fun cls d σ H => ∃ b, PySem.W.exmOne K cls q.c = some b ∧
      (b = true → ∀ a, H a = none → q.ts a cls d { nx := fun σ' H' => D.nx (unS q.i σ') H', rt := D.rt, bk := fun σ' H' => D.bk (unS q.i σ') H', ct := fun σ' H' => D.ct (unS q.i σ') H' } (inS q.i a σ) H) ∧ (b = false → wCla K Wo D r cls d σ H)
inductive ClaOk (X : Cx) : List ExceptHandler → List Cla → Prop
  | nil : ClaOk X [] []
  | bare {x : Str} {q : Cla} {b₁ : Stmt} {su : List Stmt} {np p1 : Pos} {hs : List ExceptHandler} {l : List Cla} (hi : q.i = none) (hc : Names X x q.c)
      (ok : ∀ (a : Addr) (oe : Obj) (cls : Value) (d : Option Addr) (pn : List (Addr × Obj)), Zc cls d oe → (∃ vs, oe.data = .fields vs) → PSs (X.suite a ((a, oe) :: pn)) (b₁ :: su) (q.ts a cls d)) (r : ClaOk X hs l) :
      ClaOk X (.ExceptHandler (some (.Name x np)) none (b₁ :: su) p1 :: hs) (q :: l)
  | named {x n : Str} {i : Nat} {q : Cla} {b₁ : Stmt} {su : List Stmt} {np p1 : Pos} {hs : List ExceptHandler} {l : List Cla} (hi : q.i = some i) (hN : X.N.Nodup) (hn : X.N[i]? = some n) (hl : X.env.kindOf n = some .local) (hc : Names X x q.c)
      (ok : ∀ (a : Addr) (oe : Obj) (cls : Value) (d : Option Addr) (pn : List (Addr × Obj)), Zc cls d oe → (∃ vs, oe.data = .fields vs) → PSs (X.suite a ((a, oe) :: pn)) (b₁ :: su) (q.ts a cls d)) (r : ClaOk X hs l) :
      ClaOk X (.ExceptHandler (some (.Name x np)) (some n) (b₁ :: su) p1 :: hs) (q :: l)
section
variable {X : Cx} {body : List Stmt} {h₁ : ExceptHandler} {hds : List ExceptHandler} {l : List Cla} {pos : Pos} {tb : WX → TS} {Wo : WX}
theorem ps_try_cla (hst : X.stack = X.env :: X.outer) (hfl : X.env.frame = some X.env.locals) (tk : Takes X Wo)
    (hb : ∀ (W : WX) (pn : List (Addr × Obj)) (xe : Value → Shared → Prop), Takes (X.tr pn xe) W → PassesOwn (model X.prog X.w) X.A X.env xe → PSs (X.tr pn xe) body (tb W))
    (hh : ClaOk X (h₁ :: hds) l) : PS X (.Try body (h₁ :: hds) [] [] pos) (fun D σ H => tb (wCla X.K Wo D l) D σ H) := by
  refine ⟨fun pins s σ H D I h => ?_⟩
  have okX := I.ok
  have fr0 : X.A.frames = some (X.env :: X.outer) := okX.frames.trans (by rw [hst])
  let xe' : Value → Shared → Prop := fun e s₁ => wpAny (model X.prog X.w) X.A (noteFrame e X.env) (fun _ s₂ => wpAny (model X.prog X.w) X.A (setFlight e none) (fun _ s₃ => wpAny (model X.prog X.w) X.A (handleBy e X.env (h₁ :: hds)) (SP X pins D) X.xe s₃) X.xe s₂) X.xe s₁
  refine wpAny_Try_except (wpAny_mono ((hb (wCla X.K Wo D l) (X.pn ++ pins) xe' (fun u s' xx => ?_) PassesOwn.looking).run [] s σ H D (I.toTry _) h) (fun fw s1 hsp => ?_) (fun _ _ he => he))
  · obtain ⟨a, B, sI, pq, σ', H', cls, d, rfl, J', nb, up, sky, na, os, ag, wsh⟩ := xx
    have J : Inv X pins σ' H' sI := J'.ofTry okX
    show wpAny (model X.prog X.w) X.A (noteFrame (.ref a) X.env) _ _ _
    refine Sky.land Zc.steady fr0 hfl (show Sky B (X.env :: X.outer) a (Zc cls d) X.env.locals s'.heap by rw [← hst]; exact sky) fun g3 f3 u3 => ?_
    have J3 : Inv X pins σ' H' { s' with heap := g3 } := J.landed nb f3.1 (up.trans u3) os ag
    obtain ⟨o3, w3, e3, z3, d3⟩ := f3.there
    have out : a ∉ frs (X.env :: X.outer) := fun hm => by
      obtain ⟨_, o', e', hnf⟩ := f3.2.2.1.mem hm
      rw [e3] at e'; cases e'
      exact hnf _ d3
    have oL : a ≠ X.env.locals := fun z => out (List.mem_filterMap.mpr ⟨X.env, List.mem_cons_self, by rw [hfl, z]⟩)
    have oF : a ∉ X.fs := fun hm => by
      obtain ⟨ev, hev, q⟩ := List.mem_filterMap.mp hm
      exact out (List.mem_filterMap.mpr ⟨ev, List.mem_cons_of_mem _ hev, q⟩)
    have S3 := J3.suite e3 d3 na oL oF
    have tst : ∀ {x : Str} {np : Pos} {c : Value} {Q : Value → Shared → Prop} {E : Value → Shared → Prop}, Names X x c → Q c { s' with heap := g3 } → wpAny (model X.prog X.w) (X.A.mark (some (.ref a))) (eval (.Name x np) X.env) Q E { s' with heap := g3 } := fun {x np c Q E} hc q => by
      rcases hc with ⟨hg, hdb, hm | ⟨hm, hv, hnn⟩⟩
      · exact ld_glob (X := X.suite a ((a, o3) :: (X.pn ++ pins))) S3 hg hm q hdb
      · exact ld_blt (X := X.suite a ((a, o3) :: (X.pn ++ pins))) S3 hg hm hv q hnn hdb
    have lt3 : PySem.W.Looks (model X.prog X.w) g3 (typeOf (.ref a)) cls := fun A Q E s k q => wpAny_typeOf_ref (k _ _ e3) (by rw [z3.1]; exact q)
    have walk : ∀ {hs' : List ExceptHandler} {l' : List Cla}, ClaOk X hs' l' → wCla X.K Wo D l' cls d σ' H' → wpAny (model X.prog X.w) X.A (handleBy (.ref a) X.env hs') (SP X pins D) X.xe { s' with heap := g3 } := by
      intro hs' l' hk
      induction hk with
      | nil =>
        intro ww
        refine wpAny_handleBy_nil ?_
        obtain ⟨_, _, _, ob, fv, tb1, _, _, eb, _, db, h1b, _⟩ := id f3
        unfold PySem.passOn
        refine wpAny_bind (wpAny_field eb db h1b ?_)
        rw [if_neg (show ¬ ((Value.ref tb1 == Value.none) = true) from by simp)]
        have up1 : wpAny (model X.prog X.w) X.A (setFlight (.ref a) X.env.frame) (fun _ s4 => wpAny (model X.prog X.w) X.A (throw (.ref a) : Sem Flow) (SP X pins D) X.xe s4) X.xe { s' with heap := g3 } := by
          rw [hfl]
          exact HandSPX.setFlight_upZ f3 fun g4 hh4 u4 => wpAny_throw (tk _ _ ⟨a, B, sI, pins, σ', H', cls, d, rfl, J, nb, (up.trans u3).trans u4, .inr (.inr (by rw [hst]; exact hh4)), na, os, ag, ww⟩)
        first
          | exact wpAny_bind (wpAny_pure (wpAny_bind up1))
          | exact wpAny_bind up1
      | @bare x q b₁ su np p1 hs2 l2 hi hc ok r ih =>
        rintro ⟨b, hb1, yes, no⟩
        refine wpAny_handleBy_cons (codeAny_handlers_test (tst hc ((PySem.W.exm_one (M := model X.prog X.w) J3.kIn lt3 hb1).here ?_))) (by intro q; cases q)
        cases b with
        | false => exact ih (no rfl)
        | true =>
          refine codeAny_handlers_suite (HandSPX.lands_againZ f3 fun g4 f4 u4 => ?_)
          have J4 : Inv X pins σ' H' { s' with heap := g4 } := J.landed nb f4.1 ((up.trans u3).trans u4) os ag
          obtain ⟨o4, w4, e4, z4, d4⟩ := f4.there
          have hy := yes rfl a na
          rw [hi] at hy
          refine wpAny_mono ((ok a o4 cls d (X.pn ++ pins) z4 ⟨_, d4⟩).run [] _ _ H' _ (J4.suite e4 d4 na oL oF) hy) (fun fw s6 hsp => ?_) (fun _ _ z => z.elim)
          cases fw with
          | ret u => obtain ⟨v6, σ6, H6, S6, r6, q6⟩ := hsp; exact ⟨_, _, _, S6.unsuite okX, r6, q6⟩
          | next => obtain ⟨σ6, H6, S6, q6⟩ := hsp; exact ⟨_, _, S6.unsuite okX, q6⟩
          | brk => obtain ⟨σ6, H6, S6, q6⟩ := hsp; exact ⟨_, _, S6.unsuite okX, q6⟩
          | cont => obtain ⟨σ6, H6, S6, q6⟩ := hsp; exact ⟨_, _, S6.unsuite okX, q6⟩
      | @named x n i q b₁ su np p1 hs2 l2 hi hN hn hl hc ok r ih =>
        rintro ⟨b, hb1, yes, no⟩
        refine wpAny_handleBy_cons (codeAny_handlers_test (tst hc ((PySem.W.exm_one (M := model X.prog X.w) J3.kIn lt3 hb1).here ?_))) (by intro q; cases q)
        cases b with
        | false => exact ih (no rfl)
        | true =>
          refine codeAny_handlers_suite_as (HandSPX.lands_againZ f3 fun g4 f4 u4 => ?_)
          have J4 : Inv X pins σ' H' { s' with heap := g4 } := J.landed nb f4.1 ((up.trans u3).trans u4) os ag
          obtain ⟨o4, w4, e4, z4, d4⟩ := f4.there
          have hy := yes rfl a na
          rw [hi] at hy
          refine store_ok (X := X.suite a ((a, o4) :: (X.pn ++ pins))) (v := .ref a) (J4.suite e4 d4 na oL oF) hN hn (.inl hl) rfl (fun s5 S5 => ?_) (.inr hl)
          refine wpAny_mono ((ok a o4 cls d (X.pn ++ pins) z4 ⟨_, d4⟩).run [] s5 _ H' _ S5 hy) (fun fw s6 hsp => ?_) (fun _ _ z => z.elim)
          have fin : ∀ {σ6 : L2.St} {H6 : Hp} {Q : Shared → Prop}, Inv (X.suite a ((a, o4) :: (X.pn ++ pins))) [] σ6 H6 s6 → (∀ s7, Inv X pins (σ6.set i none) H6 s7 → Q s7) →
              wpAny (model X.prog X.w) X.A (do bindName X.env n .none; unbindBehindTheSuite X.env n p1) (fun _ s7 => Q s7) X.xe s6 := fun S6 hq => gone_ok (S6.unsuite okX) hN hn hl hq
          cases fw with
          | ret u => obtain ⟨v6, σ6, H6, S6, r6, q6⟩ := hsp; exact fin S6 fun s7 J7 => ⟨_, _, _, J7, r6, q6⟩
          | next => obtain ⟨σ6, H6, S6, q6⟩ := hsp; exact fin S6 fun s7 J7 => ⟨_, _, J7, q6⟩
          | brk => obtain ⟨σ6, H6, S6, q6⟩ := hsp; exact fin S6 fun s7 J7 => ⟨_, _, J7, q6⟩
          | cont => obtain ⟨σ6, H6, S6, q6⟩ := hsp; exact fin S6 fun s7 J7 => ⟨_, _, J7, q6⟩
    exact walk hh wsh
  · cases fw with
    | ret u => obtain ⟨v, σ', H', J', r, q⟩ := hsp; exact ⟨v, σ', H', J'.ofTry okX, r, q⟩
    | next => obtain ⟨σ', H', J', q⟩ := hsp; exact wpAny_execs_nil ⟨σ', H', J'.ofTry okX, q⟩
    | brk => obtain ⟨σ', H', J', q⟩ := hsp; exact ⟨σ', H', J'.ofTry okX, q⟩
    | cont => obtain ⟨σ', H', J', q⟩ := hsp; exact ⟨σ', H', J'.ofTry okX, q⟩
end
end Mi
/-! MjA: try with clauses, caught errors and their fields, as mirrors -/
namespace Mi
open PySem PySem.Spec PyProof.Rows L2
mutual
/-- no caught error within -/
def exF : U → Bool
  | .exv => false
  | .err _ _ xs => exFs xs
  | .tup xs => exFs xs
  | .lst xs => exFs xs
  | .slst xs => exFs xs
  | .dK _ xs => exFs xs
  | .dT _ xs => exFs xs
  | .obj _ _ xs => exFs xs
  | .cel _ => true
  | .ty _ => true
  | .non => true
  | .bl _ => true
  | .int _ => true
  | .str _ => true
def exFs : List U → Bool
  | [] => true
  | x :: xs => exF x && exFs xs
end
abbrev gS (g : Gc) (x : Option Exa) : Gc := ⟨g.K, g.mg, g.cls, x⟩
section
variable {g : Gc} {w w0 w3 : Wd} {x : Option Exa} {e' : Option Addr} {fz' : Hp}
mutual
theorem UV.into (hx : w.ex = none) (hf : ∀ a o, w.fz a = some o → fz' a = some o) : ∀ {u : U} {v : V}, UV g w u v → UV (gS g x) ⟨w.ρ, fz', e'⟩ u v
  | .non, _, r => r
  | .bl _, _, r => r
  | .int _, _, r => r
  | .str _, _, r => r
  | .cel _, _, r => r
  | .tup _, _, ⟨a, vs, e, q, r⟩ => ⟨a, vs, e, hf _ _ q, UVs.into hx hf r⟩
  | .lst _, _, ⟨a, vs, e, q, r⟩ => ⟨a, vs, e, hf _ _ q, UVs.into hx hf r⟩
  | .slst _, _, ⟨a, vs, e, q, r⟩ => ⟨a, vs, e, SqL.up hf q, UVs.into hx hf r⟩
  | .dK _ _, _, ⟨a, vs, e, q, l, r⟩ => ⟨a, vs, e, hf _ _ q, l, UVs.into hx hf r⟩
  | .dT _ _, _, ⟨a, vs, e, q, l, r⟩ => ⟨a, vs, e, hf _ _ q, l, UVs.into hx hf r⟩
  | .obj _ _ _, _, ⟨a, dx, vs, e, q, l, r⟩ => ⟨a, dx, vs, e, hf _ _ q, l, UVs.into hx hf r⟩
  | .ty _, _, r => r
  | .exv, _, ⟨a, e, q⟩ => by rw [hx] at e; cases e
  | .err _ _ _, _, ⟨a, dx, vs, e, q, l, r⟩ => ⟨a, dx, vs, e, q.up hf, l, UVs.into hx hf r⟩
theorem UVs.into (hx : w.ex = none) (hf : ∀ a o, w.fz a = some o → fz' a = some o) : ∀ {us : List U} {vs : List V}, UVs g w us vs → UVs (gS g x) ⟨w.ρ, fz', e'⟩ us vs
  | [], _, r => r
  | _ :: _, _, ⟨v, r, e, q, t⟩ => ⟨v, r, e, UV.into hx hf q, UVs.into hx hf t⟩
end
mutual
theorem UV.outF : ∀ {u : U} {v : V}, exF u = true → UV (gS g x) w3 u v → UV g ⟨w3.ρ, w3.fz, none⟩ u v
  | .non, _, _, r => r
  | .bl _, _, _, r => r
  | .int _, _, _, r => r
  | .str _, _, _, r => r
  | .cel _, _, _, r => r
  | .tup _, _, h, ⟨a, vs, e, q, r⟩ => ⟨a, vs, e, q, UVs.outF (by simpa [exF] using h) r⟩
  | .lst _, _, h, ⟨a, vs, e, q, r⟩ => ⟨a, vs, e, q, UVs.outF (by simpa [exF] using h) r⟩
  | .slst _, _, h, ⟨a, vs, e, q, r⟩ => ⟨a, vs, e, q, UVs.outF (by simpa [exF] using h) r⟩
  | .dK _ _, _, h, ⟨a, vs, e, q, l, r⟩ => ⟨a, vs, e, q, l, UVs.outF (by simpa [exF] using h) r⟩
  | .dT _ _, _, h, ⟨a, vs, e, q, l, r⟩ => ⟨a, vs, e, q, l, UVs.outF (by simpa [exF] using h) r⟩
  | .obj _ _ _, _, h, ⟨a, dx, vs, e, q, l, r⟩ => ⟨a, dx, vs, e, q, l, UVs.outF (by simpa [exF] using h) r⟩
  | .ty _, _, _, r => r
  | .exv, _, h, _ => by simp [exF] at h
  | .err _ _ _, _, h, ⟨a, dx, vs, e, q, l, r⟩ => ⟨a, dx, vs, e, q, l, UVs.outF (by simpa [exF] using h) r⟩
theorem UVs.outF : ∀ {us : List U} {vs : List V}, exFs us = true → UVs (gS g x) w3 us vs → UVs g ⟨w3.ρ, w3.fz, none⟩ us vs
  | [], _, _, r => r
  | u :: us, _, h, ⟨v, r, e, q, t⟩ => by
    have h' : exF u = true ∧ exFs us = true := by simpa [exFs] using h
    exact ⟨v, r, e, UV.outF h'.1 q, UVs.outF h'.2 t⟩
end
mutual
theorem UV.exFree (hx : w.ex = none) : ∀ {u : U} {v : V}, UV g w u v → exF u = true
  | .non, _, r => rfl
  | .bl _, _, r => rfl
  | .int _, _, r => rfl
  | .str _, _, r => rfl
  | .cel _, _, r => rfl
  | .tup _, _, ⟨_, _, _, _, r⟩ => by simpa [exF] using UVs.exFree hx r
  | .lst _, _, ⟨_, _, _, _, r⟩ => by simpa [exF] using UVs.exFree hx r
  | .slst _, _, ⟨_, _, _, _, r⟩ => by simpa [exF] using UVs.exFree hx r
  | .dK _ _, _, ⟨_, _, _, _, _, r⟩ => by simpa [exF] using UVs.exFree hx r
  | .dT _ _, _, ⟨_, _, _, _, _, r⟩ => by simpa [exF] using UVs.exFree hx r
  | .obj _ _ _, _, ⟨_, _, _, _, _, _, r⟩ => by simpa [exF] using UVs.exFree hx r
  | .ty _, _, r => rfl
  | .exv, _, ⟨a, e, q⟩ => by rw [hx] at e; cases e
  | .err _ _ _, _, ⟨_, _, _, _, _, _, r⟩ => by simpa [exF] using UVs.exFree hx r
theorem UVs.exFree (hx : w.ex = none) : ∀ {us : List U} {vs : List V}, UVs g w us vs → exFs us = true
  | [], _, r => rfl
  | u :: us, _, ⟨v, r, e, q, t⟩ => by simp [exFs, UV.exFree hx q, UVs.exFree hx t]
end
theorem CellOk.into {H : Hp} {a : Addr} {cl : Cell} (hx : w.ex = none) (hf : ∀ a o, w.fz a = some o → fz' a = some o) (h : CellOk g w H a cl) : CellOk (gS g x) ⟨w.ρ, fz', e'⟩ H a cl := by
  cases cl with
  | lst xs => obtain ⟨vs, q, r⟩ := h; exact ⟨vs, q, r.into hx hf⟩
  | ins C ns xs => obtain ⟨dx, vs, q, l, r⟩ := h; exact ⟨dx, vs, q, l, r.into hx hf⟩
  | dK ks xs => obtain ⟨vs, q, l, r⟩ := h; exact ⟨vs, q, l, r.into hx hf⟩
  | dT ks xs => obtain ⟨vs, q, l, r⟩ := h; exact ⟨vs, q, l, r.into hx hf⟩
  | dead => obtain ⟨o, q⟩ := h; exact ⟨o, hf _ _ q⟩
theorem CellOk.outC {H0 H : Hp} {a0 a : Addr} {cl : Cell} (hx : w0.ex = none) (h0 : CellOk g w0 H0 a0 cl) (h : CellOk (gS g x) w3 H a cl) : CellOk g ⟨w3.ρ, w3.fz, none⟩ H a cl := by
  cases cl with
  | lst xs => obtain ⟨_, _, r0⟩ := h0; obtain ⟨vs, q, r⟩ := h; exact ⟨vs, q, UVs.outF (r0.exFree hx) r⟩
  | ins C ns xs => obtain ⟨_, _, _, _, r0⟩ := h0; obtain ⟨dx, vs, q, l, r⟩ := h; exact ⟨dx, vs, q, l, UVs.outF (r0.exFree hx) r⟩
  | dK ks xs => obtain ⟨_, _, _, r0⟩ := h0; obtain ⟨vs, q, l, r⟩ := h; exact ⟨vs, q, l, UVs.outF (r0.exFree hx) r⟩
  | dT ks xs => obtain ⟨_, _, _, r0⟩ := h0; obtain ⟨vs, q, l, r⟩ := h; exact ⟨vs, q, l, UVs.outF (r0.exFree hx) r⟩
  | dead => exact h
/-- at the suite's start -/
theorem HRel.into {c : Cs} {H : Hp} {q : Exa} (hx : w.ex = none) (h : HRel g w c H) (hd : H q.d = some (.xd (q.ns.zip q.vs))) (hl : q.ns.length = q.vs.length) (r : UVs g w q.xs q.vs) :
    HRel (gS g (some q)) ⟨w.ρ, upd w.fz q.d (.xd (q.ns.zip q.vs)), some q.a⟩ c H ∧ ∀ a o, w.fz a = some o → upd w.fz q.d (.xd (q.ns.zip q.vs)) a = some o := by
  have hf : ∀ a o, w.fz a = some o → upd w.fz q.d (.xd (q.ns.zip q.vs)) a = some o := fun a o e => by
    by_cases z : a = q.d
    · subst z; rw [upd_same]
      have := h.fz _ _ e
      rw [hd] at this; exact this
    · rw [upd_ne z]; exact e
  refine ⟨⟨fun a o e => ?_, fun i cl e => ?_, h.out, h.inj, fun q' e => ?_, fun e => by cases e⟩, hf⟩
  · by_cases z : a = q.d
    · subst z
      have e' : upd w.fz q.d (.xd (q.ns.zip q.vs)) q.d = some o := e
      rw [upd_same] at e'; cases e'; exact hd
    · have e' : upd w.fz q.d (.xd (q.ns.zip q.vs)) a = some o := e
      rw [upd_ne z] at e'; exact h.fz _ _ e'
  · obtain ⟨a, e1, k, f⟩ := h.cel i cl e
    refine ⟨a, e1, k.into hx hf, fun d => ?_⟩
    have na : a ≠ q.d := fun z => by
      subst z
      cases cl with
      | lst xs => obtain ⟨vs, q1, _⟩ := k; rw [hd] at q1; cases q1
      | ins C ns xs => obtain ⟨dx, vs, q1, _⟩ := k; rw [hd] at q1; cases q1
      | dK ks xs => obtain ⟨vs, q1, _⟩ := k; rw [hd] at q1; cases q1
      | dT ks xs => obtain ⟨vs, q1, _⟩ := k; rw [hd] at q1; cases q1
      | dead => cases d
    exact (upd_ne na).trans (f d)
  · cases e
    exact ⟨rfl, upd_same, hl, r.into hx hf⟩
/-- .. and at its end -/
theorem HRel.outC {c : Cs} {H0 H : Hp} (hx : w0.ex = none) (hg : g.exa = none) (h0 : HRel g w0 c H0) (h : HRel (gS g x) w3 c H) : HRel g ⟨w3.ρ, w3.fz, none⟩ c H := by
  refine ⟨h.fz, fun i cl e => ?_, h.out, h.inj, fun q e => (by rw [hg] at e; cases e), fun _ => rfl⟩
  obtain ⟨a0, _, k0, _⟩ := h0.cel i cl e
  obtain ⟨a, e1, k, f⟩ := h.cel i cl e
  exact ⟨a, e1, CellOk.outC hx k0 k, f⟩
end
/-! ### clauses -/
structure MCl where
  tbl : List (Nat × Bool)
  i : Option Nat
  ms : Nat → List Str → List U → MS
open Classical in
noncomputable def runCl : List MCl → Ex → T → Cs → RS
  | [], e, τ, c => .exc e τ c
  | q :: r, e, τ, c => match q.tbl.lookup e.c with
    | none => .bad
    | some false => runCl r e τ c
    | some true => match q.i with
      | none => (match q.ms e.c e.ns e.xs τ c with
        | .exc _ _ _ => .bad
        | z => z)
      | some k => if e.ns = [] then .bad else (match q.ms e.c e.ns e.xs (τ.set k (some .exv)) c with
        | .ret u c' => if exF u = true ∧ c' = c then .ret u c else .bad
        | .nx τ' c' => if τ'.set k none = τ.set k none ∧ c' = c then .nx (τ.set k none) c else .bad
        | _ => .bad)
noncomputable def msTryC (mb : MS) (qs : List MCl) : MS := fun τ c => match mb τ c with
  | .exc e τ' c' => runCl qs e τ' c'
  | z => z
abbrev WF0 : WX := fun _ _ _ _ => False
inductive DCl (X : Cx) (g : Gc) : List ExceptHandler → List MCl → Prop
  | nil : DCl X g [] []
  | bare {x : Str} {cv : Value} {tbl : List (Nat × Bool)} {m : Nat → List Str → List U → MS} {b₁ : Stmt} {su : List Stmt} {np p1 : Pos} {hs : List ExceptHandler} {l : List MCl} (hc : Names X x cv) (hm : ∀ q ∈ tbl, PySem.W.exmOne X.K (.ref (g.cls q.1)) cv = some q.2)
      (ok : ∀ (a : Addr) (oe : Obj) (pn : List (Addr × Obj)) (C : Nat) (ns : List Str) (xs : List U), DSs (X.suite a ((a, oe) :: pn)) g WF0 (b₁ :: su) (m C ns xs)) (r : DCl X g hs l) :
      DCl X g (.ExceptHandler (some (.Name x np)) none (b₁ :: su) p1 :: hs) (⟨tbl, none, m⟩ :: l)
  | named {x n : Str} {i : Nat} {cv : Value} {tbl : List (Nat × Bool)} {m : Nat → List Str → List U → MS} {b₁ : Stmt} {su : List Stmt} {np p1 : Pos} {hs : List ExceptHandler} {l : List MCl} (hc : Names X x cv) (hm : ∀ q ∈ tbl, PySem.W.exmOne X.K (.ref (g.cls q.1)) cv = some q.2)
      (hN : X.N.Nodup) (hn : X.N[i]? = some n) (hl : X.env.kindOf n = some .local)
      (ok : ∀ (oe : Obj) (pn : List (Addr × Obj)) (q : Exa), Zc (.ref (g.cls q.C)) (some q.d) oe → (∃ vs, oe.data = .fields vs) → DSs (X.suite q.a ((q.a, oe) :: pn)) (gS g (some q)) WF0 (b₁ :: su) (m q.C q.ns q.xs)) (r : DCl X g hs l) :
      DCl X g (.ExceptHandler (some (.Name x np)) (some n) (b₁ :: su) p1 :: hs) (⟨tbl, some i, m⟩ :: l)
section
variable {X : Cx} {g : Gc} {Wx : WX}
/-- the clauses, as the layer below wants them -/
theorem dcl_cla {hs : List ExceptHandler} {l : List MCl} (h : DCl X g hs l) (hgx : g.exa = none) : ∃ cl : List Cla, ClaOk X hs cl ∧ ∀ (D : Ends) (e : Ex) (w : Wd) (τ : T) (c : Cs) (σ : L2.St) (H : Hp) (cls : Value) (d : Option Addr), PostS g w Wx D (runCl l e τ c) → HRel g w c H → SR g w τ σ → XV g w H e cls d → wCla X.K Wx D cl cls d σ H := by
  induction h with
  | nil => exact ⟨[], .nil, fun D e w τ c σ H cls d q hh hs xv => q w σ cls d H (Ext.refl w) hh hs xv⟩
  | @bare x cv tbl m b₁ su np p1 hs l hc hm ok r ih =>
    obtain ⟨cl, k1, k2⟩ := ih
    refine ⟨⟨cv, none, fun _ _ _ => fun D σ H => ∃ C ns xs, rdS g WF0 (m C ns xs) D σ H⟩ :: cl, .bare rfl hc (fun a oe cls d pn _ _ => ⟨fun pins s σ H D I ⟨C, ns, xs, h⟩ => (ok a oe pn C ns xs).run pins s σ H D I h⟩) k1, ?_⟩
    intro D e w τ c σ H cls d q hh hs xv
    unfold runCl at q
    dsimp only at q
    cases hl : tbl.lookup e.c with
    | none => rw [hl] at q; exact q.elim
    | some b =>
      rw [hl] at q
      refine ⟨b, by rw [xv.1]; exact hm _ (look_mem hl), fun hb a ha => ?_, fun hb => ?_⟩
      · subst hb
        refine ⟨e.c, e.ns, e.xs, w, τ, c, hs, hh, ?_⟩
        dsimp only at q
        revert q
        cases m e.c e.ns e.xs τ c with
        | exc _ _ _ => exact fun q => q.elim
        | bad => exact fun q => q
        | nx _ _ => exact fun q => q
        | ret _ _ => exact fun q => q
        | bk _ _ => exact fun q => q
        | ct _ _ => exact fun q => q
      · subst hb
        exact k2 D e w τ c σ H cls d q hh hs xv
  | @named x n i cv tbl m b₁ su np p1 hs l hc hm hN hn hl0 ok r ih =>
    obtain ⟨cl, k1, k2⟩ := ih
    refine ⟨⟨cv, some i, fun a cls d => fun D σ H => ∃ q : Exa, q.a = a ∧ cls = .ref (g.cls q.C) ∧ d = some q.d ∧ rdS (gS g (some q)) WF0 (m q.C q.ns q.xs) D σ H⟩ :: cl, .named rfl hN hn hl0 hc (fun a oe cls d pn hz hf => ⟨fun pins s σ H D I ⟨q, qa, qc, qd, h⟩ => ?_⟩) k1, ?_⟩
    · subst qa qc qd
      exact (ok oe pn q hz hf).run pins s σ H D I h
    intro D e w τ c σ H cls d q hh hs xv
    unfold runCl at q
    dsimp only at q
    cases hl : tbl.lookup e.c with
    | none => rw [hl] at q; exact q.elim
    | some b =>
      rw [hl] at q
      refine ⟨b, by rw [xv.1]; exact hm _ (look_mem hl), fun hb a ha => ?_, fun hb => ?_⟩
      · subst hb
        dsimp only at q
        split at q
        · exact q.elim
        rename_i hne
        rcases xv.2 with ⟨z, _⟩ | ⟨da, vs, rfl, e2, e3, e4⟩
        · exact absurd z hne
        have hx : w.ex = none := hh.xn hgx
        let qx : Exa := ⟨a, da, e.c, e.ns, e.xs, vs⟩
        obtain ⟨h2, hf⟩ := hh.into (q := qx) hx e2 e3 e4
        have s2 : SR (gS g (some qx)) ⟨w.ρ, upd w.fz da (.xd (e.ns.zip vs)), some a⟩ τ σ := ⟨hs.len, fun j u hj => let ⟨v, p1, p2⟩ := hs.get j u hj; ⟨v, p1, p2.into hx hf⟩⟩
        refine ⟨qx, rfl, xv.1, rfl, _, _, c, s2.set (i := i) (u := .exv) (v := .ref a) ⟨a, rfl, rfl⟩, h2, ?_⟩
        have back : ∀ {w3 : Wd}, Ext ⟨w.ρ, upd w.fz da (.xd (e.ns.zip vs)), some a⟩ w3 → Ext w ⟨w3.ρ, w3.fz, none⟩ := fun x3 => ⟨fun b o z => x3.fz _ _ (hf _ _ z), fun j b z => x3.ρ j b z, hx.symm⟩
        revert q
        show PostS g w Wx D _ → PostS (gS g (some qx)) _ WF0 _ (m e.c e.ns e.xs (τ.set i (some .exv)) c)
        cases m e.c e.ns e.xs (τ.set i (some .exv)) c with
        | ret u c' =>
          dsimp only
          split
          · rename_i hk
            obtain ⟨hk1, rfl⟩ := hk
            exact fun q w3 v H3 x3 h3 r3 => q _ v H3 (back x3) (HRel.outC hx hgx hh h3) (UV.outF hk1 r3)
          · exact fun q => q.elim
        | nx τ' c' =>
          dsimp only
          split
          · rename_i hk
            obtain ⟨hk1, rfl⟩ := hk
            refine fun q w3 σ3 H3 x3 h3 s3 => q _ _ H3 (back x3) (HRel.outC hx hgx hh h3) ?_
            have s4 := s3.none (i := i)
            rw [hk1] at s4
            refine ⟨s4.len, fun j u hj => ?_⟩
            obtain ⟨v, p1, p2⟩ := s4.get j u hj
            obtain ⟨v0, _, p0⟩ := (hs.none (i := i)).get j u hj
            exact ⟨v, p1, UV.outF (p0.exFree hx) p2⟩
          · exact fun q => q.elim
        | exc _ _ _ => exact fun q => q.elim
        | bad => exact fun q => q.elim
        | bk _ _ => exact fun q => q.elim
        | ct _ _ => exact fun q => q.elim
      · subst hb
        exact k2 D e w τ c σ H cls d q hh hs xv
theorem ds_tryC {body : List Stmt} {h₁ : ExceptHandler} {hds : List ExceptHandler} {l : List MCl} {mb : MS} {pos : Pos} (hgx : g.exa = none) (hst : X.stack = X.env :: X.outer) (hfl : X.env.frame = some X.env.locals) (tk : Takes X Wx)
    (hb : ∀ (W : WX) (pn : List (Addr × Obj)) (xe : Value → Shared → Prop), Takes (X.tr pn xe) W → PassesOwn (model X.prog X.w) X.A X.env xe → DSs (X.tr pn xe) g W body mb)
    (hh : DCl X g (h₁ :: hds) l) : DS X g Wx (.Try body (h₁ :: hds) [] [] pos) (msTryC mb l) := by
  obtain ⟨cl, k1, k2⟩ := dcl_cla (Wx := Wx) hh hgx
  refine ps_imp (ps_try_cla hst hfl tk (tb := fun W => rdS g W mb) hb k1) fun D σ H ⟨w, τ, c, hs, h, q⟩ => ⟨w, τ, c, hs, h, ?_⟩
  unfold msTryC at q
  revert q
  cases mb τ c with
  | exc e τ' c' => exact fun q w' σ' cls d H' ex h' s' xv => k2 D e w' τ' c' σ' H' cls d (q.up ex) h' s' xv
  | nx _ _ => exact fun q => q
  | ret _ _ => exact fun q => q
  | bk _ _ => exact fun q => q
  | ct _ _ => exact fun q => q
  | bad => exact fun q => q
/-! ### e.f -/
def mXf (cs : List Nat) (f : Str) (C : Nat) (ns : List Str) (xs : List U) (i : Nat) : ME := fun τ c => match τ[i]?, (ixF f ns).bind fun k => xs[k]? with
  | some (some .exv), some u => if C ∈ cs then .ok u c else .bad
  | _, _ => .bad
theorem de_xf {q : Exa} {oe : Obj} {pn : List (Addr × Obj)} {cs : List Nat} {f n : Str} {i : Nat} {p pos : Pos} (hz : Zc (.ref (g.cls q.C)) (some q.d) oe) (hf : ∃ vs, oe.data = .fields vs) (hxc : ∀ C ∈ cs, XfC X.K (g.cls C) ∧ PySem.W.findIn X.K (.ref (g.cls C)) f = some none)
    (he : PE (X.suite q.a ((q.a, oe) :: pn)) (.Name n p) (tVar i)) (hb : attributeBase (.Name n p) f X.env (eval (.Name n p) X.env) = eval (.Name n p) X.env := by rfl) : DE (X.suite q.a ((q.a, oe) :: pn)) (gS g (some q)) Wx (.Attribute (.Name n p) f pos) (mXf cs f q.C q.ns q.xs i) := by
  refine ⟨fun pins s σ H Q I ⟨w, τ, c, hs, hh, h⟩ => ?_⟩
  unfold mXf at h
  split at h
  · rename_i u e1 e2
    split at h
    · rename_i hC
      obtain ⟨T, hno⟩ := hxc _ hC
      refine (pe_xf (X := X) (d := some q.d) T hno hz hf he hb).run pins s σ H Q I ?_
      obtain ⟨v0, ev, a0, ew, ea⟩ := hs.get i _ e1
      obtain ⟨x1, x2, x3, x4⟩ := hh.xv q rfl
      rw [x1] at ew; cases ew; subst ea
      obtain ⟨k, hk1, hk2⟩ := Option.bind_eq_some_iff.mp e2
      obtain ⟨v, hv1, hv2⟩ := x4.get hk2
      exact ⟨_, ev, rfl, rfl, q.d, _, v, rfl, hh.fz _ _ x2, by rw [look_zip x3, hk1]; exact hv1, Post.here h hh hv2⟩
    · exact h.elim
  · exact h.elim
end
end Mi
/-! MjB: error classes out of the written part -/
namespace Mi
open PySem PySem.Spec PyProof.Rows L2
def oexB (K : PySem.W.Frag) (C : Addr) : Bool := match K.lookup C with
  | some ⟨.type "type", _, .cls cd, sl⟩ => (match cd.mro, sl.toList with
    | .ref D :: bm, [_, _, _, _, some (.builtin n), _] => D == C && (n == "ValueError.__new__" && (!cd.hasDel && (cd.hasDict && HandSPX.refsVE bm)))
    | _, _ => false)
  | _ => false
theorem oexB_cls {K : PySem.W.Frag} {C : Addr} (h : oexB K C = true) : ∃ nm q N bs bm sn sub ab col dd k0 k1 k2 k3 k5, K.lookup C = some (excClassObj nm q C N bs bm true sn sub ab col dd k0 k1 k2 k3 k5 "ValueError.__new__") ∧ HandSPX.refsVE bm = true := by
  unfold oexB at h
  split at h
  · rename_i dd cd sl ho
    split at h
    · rename_i D bm k0 k1 k2 k3 n k5 hm hs
      simp only [Bool.and_eq_true, beq_iff_eq, Bool.not_eq_true'] at h
      obtain ⟨rfl, rfl, h3, h4, h5⟩ := h
      obtain ⟨nm, bs, mro, nsp, qn, hd, sn, sub, ab, col, de⟩ := cd
      dsimp only at hm h3 h4
      subst hm h3 h4
      obtain ⟨l⟩ := sl
      dsimp only at hs
      subst hs
      exact ⟨nm, qn, nsp, bs, bm, sn, sub, ab, col, dd, k0, k1, k2, k3, k5, ho, h5⟩
    · cases h
  · cases h
/-- the text of an __init__ with one value -/
structure ErrS1 (st : Stmt) (qual n F : Str) : Prop where
  body : ∃ p0 p1 p2 p3 p4 p5 q1 q2 q3 q4, defBody st = [.Expr (.Call (.Attribute (.Call (.Name "super" p0) [] [] p1) "__init__" p2) [.Name n p5] [] p3) p4, .Assign [.Attribute (.Name "self" q1) F q2] (.Name n q3) q4] ∧
    ∀ f L cda cc, ∃ pl, eval (.Call (.Attribute (.Call (.Name "super" p0) [] [] p1) "__init__" p2) [.Name n p5] [] p3) (PySem.W.ksEnv qual (defScope st) L f (.ref cda) cc) = (attributeBase (.Call (.Name "super" p0) [] [] p1) "__init__" (PySem.W.ksEnv qual (defScope st) L f (.ref cda) cc) (eval (.Call (.Name "super" p0) [] [] p1) (PySem.W.ksEnv qual (defScope st) L f (.ref cda) cc)) >>= fun ov => standAt p2.atName >>= fun _ => holding [ov] (getMethod ov "__init__" pl) >>= fun q => callWith p3 q.1 q.2 (backTo p3 (starEach [.Name n p5] (PySem.W.ksEnv qual (defScope st) L f (.ref cda) cc))) [])
  par : ((defArgs st).posonlyargs ++ (defArgs st).args).head?.map (·.arg) = some ("self" : Str)
  ns : n ≠ "self"
  db : (n == ("__debug__" : Str)) = false
  k1 : (defScope st).kind = .function
  k2 : (defScope st).isCoroutine = false
  k3 : (defScope st).isGenerator = false
  k4 : (defScope st).names.lookup ("super" : Str) = some .globalImplicit
  k5 : (defScope st).names.lookup ("__class__" : Str) = some .free
  k6 : (defScope st).names.lookup ("self" : Str) = some .local
  k7 : (defScope st).names.lookup n = some .local
  k8 : ∀ y ∈ (defScope st).names, y.2 ≠ .cell
  hi : ∀ f L cda cc, interactive (PySem.W.ksEnv qual (defScope st) L f (.ref cda) cc) = false
  bi : ∀ (kV doc pm : Value) (an : Option Addr) (cdv ct : Value) (cc : Addr) (us : List Value), us.length = 2 → bindArgs (PySem.W.ksFn "__init__" qual (defArgs st) (defBody st) (defScope st) .none kV doc pm an cdv ct cc) ⟨us, []⟩ = pure ((["self", n] : List Str).zip us)
structure ErrS2 (st : Stmt) (qual n F m G : Str) : Prop where
  body : ∃ p0 p1 p2 p3 p4 p5 p6 q1 q2 q3 q4 q5 q6 q7 q8, defBody st = [.Expr (.Call (.Attribute (.Call (.Name "super" p0) [] [] p1) "__init__" p2) [.Name n p5, .Name m p6] [] p3) p4, .Assign [.Attribute (.Name "self" q1) F q2] (.Name n q3) q4, .Assign [.Attribute (.Name "self" q5) G q6] (.Name m q7) q8] ∧
    ∀ f L cda cc, ∃ pl, eval (.Call (.Attribute (.Call (.Name "super" p0) [] [] p1) "__init__" p2) [.Name n p5, .Name m p6] [] p3) (PySem.W.ksEnv qual (defScope st) L f (.ref cda) cc) = (attributeBase (.Call (.Name "super" p0) [] [] p1) "__init__" (PySem.W.ksEnv qual (defScope st) L f (.ref cda) cc) (eval (.Call (.Name "super" p0) [] [] p1) (PySem.W.ksEnv qual (defScope st) L f (.ref cda) cc)) >>= fun ov => standAt p2.atName >>= fun _ => holding [ov] (getMethod ov "__init__" pl) >>= fun q => callWith p3 q.1 q.2 (backTo p3 (starEach [.Name n p5, .Name m p6] (PySem.W.ksEnv qual (defScope st) L f (.ref cda) cc))) [])
  par : ((defArgs st).posonlyargs ++ (defArgs st).args).head?.map (·.arg) = some ("self" : Str)
  ns : n ≠ "self"
  ms : m ≠ "self"
  nm : n ≠ m
  db : (n == ("__debug__" : Str)) = false
  db2 : (m == ("__debug__" : Str)) = false
  k1 : (defScope st).kind = .function
  k2 : (defScope st).isCoroutine = false
  k3 : (defScope st).isGenerator = false
  k4 : (defScope st).names.lookup ("super" : Str) = some .globalImplicit
  k5 : (defScope st).names.lookup ("__class__" : Str) = some .free
  k6 : (defScope st).names.lookup ("self" : Str) = some .local
  k7 : (defScope st).names.lookup n = some .local
  k9 : (defScope st).names.lookup m = some .local
  k8 : ∀ y ∈ (defScope st).names, y.2 ≠ .cell
  hi : ∀ f L cda cc, interactive (PySem.W.ksEnv qual (defScope st) L f (.ref cda) cc) = false
  bi : ∀ (kV doc pm : Value) (an : Option Addr) (cdv ct : Value) (cc : Addr) (us : List Value), us.length = 3 → bindArgs (PySem.W.ksFn "__init__" qual (defArgs st) (defBody st) (defScope st) .none kV doc pm an cdv ct cc) ⟨us, []⟩ = pure ((["self", n, m] : List Str).zip us)
section
variable {P : Program} {K : PySem.W.Frag} {mg : Str → Option Value} {C f cda cc : Addr} {st : Stmt} {x qual n F m G : Str}
  {oc : Value} {od : Option Addr} {kV doc pm : Value} {an : Option Addr} {ct : Value} {osl : Array (Option Value)} {ccl : Value} {cdd : Option Addr} {vs : Array Value} {ccs : Array (Option Value)} {file : Str} {tf : Tok} {cl : Value} {cld : Option Addr} {csl : Array (Option Value)}
/-- the facts, in the order in which they are found -/
theorem errI_of (iC : PySem.W.findIn K (.ref C) "__init__" = some (some (.ref f)))
    (lk : K.lookup f = some ⟨oc, od, .func (PySem.W.ksFn "__init__" qual (defArgs st) (defBody st) (defScope st) .none kV doc pm an (.ref cda) ct cc), osl⟩) (hcd : PySem.W.codeIn K (.ref cda) qual = true)
    (lc : K.lookup cda = some ⟨ccl, cdd, .fields vs, ccs⟩) (hv : vs[2]? = some (.str file tf)) (hfi : ((P.main.file : Str) == file) = true) (le : K.lookup cc = some ⟨cl, cld, .cell (some (.ref C)), csl⟩)
    (top : (P.main.scope.names.lookup ("super" : Str)).isSome = false) (su : mg "super" = none) (opq : PySem.W.nsIn K cStatics "thirdparty.any" = some none) (hm : PySem.W.ks_superIn K C C "__init__" = some (some (.builtin "ValueError.__init__")))
    (hB : PySem.W.subIn K (.ref C) (.type "ValueError") = some true) (q : PySem.W.excInitIn K C [.type "ValueError", .type "Exception", .type "BaseException", .type "object"] "ValueError.__new__" = true) (ob : oexB K C = true)
    (sa : PySem.W.findIn K (.ref C) "__setattr__" = some (some (.builtin "object.__setattr__"))) (exC : PySem.W.subIn K (.ref C) (.type "BaseException") = some true) (tyC : PySem.W.typeIn K (.ref C) = some (.type "type")) (kC : PySem.W.keepIn K (.ref C) = true)
    (tI : PySem.W.typeIn K (.ref f) = some (.type "function")) : ErrI P K mg C f (PySem.W.ksFn "__init__" qual (defArgs st) (defBody st) (defScope st) .none kV doc pm an (.ref cda) ct cc) st qual :=
  ⟨⟨oc, od, kV, doc, pm, an, cda, ct, cc, osl, rfl, lk, hcd, ⟨ccl, cdd, vs, ccs, file, tf, lc, hv, hfi⟩, ⟨cl, cld, csl, le⟩⟩, top, su, opq, hm, hB, ⟨_, PySem.F.excBase_ValueError, q⟩, ⟨oexB_cls ob, sa, exC, tyC, kC⟩, iC, tI⟩
theorem errV1_of {fd : FuncData} (S : ErrS1 st qual n F) (I : ErrI P K mg C f fd st qual) (gC : mg x = some (.ref C)) (ga : PySem.W.findIn K (.ref C) "__getattribute__" = some (some (.builtin "BaseException.__getattribute__"))) (gg : PySem.W.findIn K (.ref C) "__getattr__" = some none) (hd : PySem.W.hasDictIn K C = true)
    (no : PySem.W.findIn K (.ref C) F = some none) : ErrV P K mg x C [F] := by
  refine ⟨gC, I.T, ⟨ga, gg, I.T.exC, hd⟩, fun y hy => by cases List.mem_singleton.mp hy; exact no, f, fd, ["self", n], spE1 C F, I.iC, I.tI, ?_, fun w base => ?_, .inl ⟨F, rfl, rfl⟩⟩
  · obtain ⟨oc, od, kV, doc, pm, an, cda, ct, cc, osl, rfl, _⟩ := I.ex
    exact .all fun us hl => S.bi kV doc pm an _ ct cc us hl
  · obtain ⟨p0, p1, p2, p3, p4, p5, q1, q2, q3, q4, hb, he⟩ := S.body
    have hp : (fd.params.posonlyargs ++ fd.params.args).head?.map (·.arg) = some ("self" : Str) := by
      obtain ⟨oc, od, kV, doc, pm, an, cda, ct, cc, osl, rfl, _⟩ := I.ex
      exact S.par
    exact err_fn1 I hb no S.ns S.db hp S.k1 S.k2 S.k3 S.k4 S.k5 S.k6 S.k7 S.k8 (S.hi f) (he f)
theorem errV2_of {fd : FuncData} (S : ErrS2 st qual n F m G) (I : ErrI P K mg C f fd st qual) (gC : mg x = some (.ref C)) (ga : PySem.W.findIn K (.ref C) "__getattribute__" = some (some (.builtin "BaseException.__getattribute__"))) (gg : PySem.W.findIn K (.ref C) "__getattr__" = some none) (hd : PySem.W.hasDictIn K C = true)
    (no : PySem.W.findIn K (.ref C) F = some none) (no2 : PySem.W.findIn K (.ref C) G = some none) : ErrV P K mg x C [G, F] := by
  refine ⟨gC, I.T, ⟨ga, gg, I.T.exC, hd⟩, fun y hy => ?_, f, fd, ["self", n, m], spE2 C F G, I.iC, I.tI, ?_, fun w base => ?_, .inr ⟨F, G, rfl, rfl⟩⟩
  · simp only [List.mem_cons, List.not_mem_nil, or_false] at hy
    rcases hy with rfl | rfl
    · exact no2
    · exact no
  · obtain ⟨oc, od, kV, doc, pm, an, cda, ct, cc, osl, rfl, _⟩ := I.ex
    exact .all fun us hl => S.bi kV doc pm an _ ct cc us hl
  · obtain ⟨p0, p1, p2, p3, p4, p5, p6, q1, q2, q3, q4, q5, q6, q7, q8, hb, he⟩ := S.body
    have hp : (fd.params.posonlyargs ++ fd.params.args).head?.map (·.arg) = some ("self" : Str) := by
      obtain ⟨oc, od, kV, doc, pm, an, cda, ct, cc, osl, rfl, _⟩ := I.ex
      exact S.par
    exact err_fn2 I hb no no2 S.ns S.ms S.nm S.db S.db2 hp S.k1 S.k2 S.k3 S.k4 S.k5 S.k6 S.k7 S.k9 S.k8 (S.hi f) (he f)
end
end Mi
/-! MjC: own operators with numbers on the right, -x, == with the instance on the right -/
namespace Mi
open PySem PySem.Spec PyProof.Rows L2
section
variable {X : Cx} {g : Gc} {Wx : WX} {k j : Nat} {ps : List Str} {Fm : List U → Cs → R U} {C : Nat} {pins : List (Addr × Obj)} {σ : L2.St} {H : Hp} {s : Shared} {Q : VK}
/-- what an operator's own def asks of its class, where an integer may stand on the right -/
structure BinC (K : PySem.W.Frag) (C : Addr) (nm : String) : Prop where
  sf : PySem.W.selfFirst K C = true
  nr : PySem.W.findIn K (.ref C) (dunderR nm) = some none
  t1 : ∃ fo, PySem.W.findIn K (.type "int") (PySem.dunder nm) = some fo
  t2 : ∃ ro, PySem.W.findIn K (.type "int") (dunderR nm) = some ro
  hs : PySem.W.subIn K (.type "int") (.ref C) = some false
def isI : U → Bool
  | .int _ => true
  | _ => false
def fOwnB (C : Nat) (Fm : List U → Cs → R U) (u v : U) (c : Cs) : Option (U × Cs) := match oview c v with
  | some (C', _, _) => if C' = C then fOwn2 C Fm u v c else none
  | none => if isI v = true then fOwn2 C Fm u v c else none
abbrev rOwnB (g : Gc) (C : Nat) (Fm : List U → Cs → R U) : R2 := rOwn2 g C Fm fun y H => (∃ b dy fy, y = .ref b ∧ H b = some (.ins (g.cls C) dy fy)) ∨ ∃ i, y = .int i
theorem ownB_u : OpU g (fOwnB C Fm) (rOwnB g C Fm) := by
  intro w c H u v x y z c' Q hh ru rv e h
  unfold fOwnB at e
  split at e
  · rename_i C' ns xs eo
    split at e
    · rename_i hC
      subst hC
      obtain ⟨b, dy, vs, rfl, hB, hl, rs⟩ := oview_ok hh rv eo
      exact fOwn2_ok hh ru rv e (.inl ⟨b, dy, _, rfl, hB⟩) h
    · cases e
  · split at e
    · rename_i hi
      cases v with
      | int i => exact fOwn2_ok hh ru rv e (.inr ⟨i, rv⟩) h
      | _ => cases hi
    · cases e
theorem op_ownB {op : Operator} (B : BinC X.K (g.cls C) op.info.2) (O : OwnF X.prog X.w X.K X.mg X.base g k (InC X.K (g.cls C) (PySem.dunder op.info.2)) ps [] Fm) (hps : ps.length = 2) (hr : Room k X.A) (hgd : X.A.guards = some []) :
    OpR X (binaryOp op) (rOwnB g C Fm) := by
  have O0 := O
  obtain ⟨fa, fd, ds, dvs, hat, F, hfn, hkp, hd, hdu, hb⟩ := O.ex
  intro pins s σ H x y v u Q I rx ry h
  obtain ⟨w, c, uu, vv, a, dx, fs, hh, r1, r2, rfl, hA, hy, q⟩ := h
  rcases hy with hy | ⟨i, rfl⟩
  · exact op_own2 B.sf O0 hps hr hgd pins s σ H _ y v u Q I rx ry ⟨w, c, uu, vv, a, dx, fs, hh, r1, r2, rfl, hA, hy, q⟩
  · cases (show v = Value.ref a from rx)
    obtain ⟨t, rfl⟩ := (show ∃ t, u = Value.int i t from ry)
    obtain ⟨mA, O1, _⟩ := ins_get I.hok hA
    obtain ⟨od, J, _⟩ := O1.look
    obtain ⟨m, hF⟩ := I.fr
    obtain ⟨fo, h1⟩ := B.t1
    obtain ⟨ro, h2⟩ := B.t2
    refine PySem.W.ksp_binT (T := "int") hF I.ok.mod.kin J rfl B.sf hat hfn B.nr (.inl rfl) h1 h2 B.hs ?_
    have hdv : dvs = [] := by have := hdu w; cases (show dvs = [] from this); rfl
    refine wpAny_mono (runGA (us := [.ref a, .int i t]) (vs := [.ref a, .int i]) hr hgd I.env0 F I hb hd (.cons rfl (.cons ⟨t, rfl⟩ .nil)) (by rw [hps]; rfl) hh (by subst hdv; exact ⟨_, _, rfl, r1, _, _, rfl, r2, rfl⟩) q) (fun z s' hz => ?_) fun _ _ x => x
    obtain ⟨z', H', I', rz, qz⟩ := hz
    exact SlX.cmpback rz ⟨z', H', I', rz, qz⟩
/-! ### -x -/
def fOwn1 (C : Nat) (Fm : List U → Cs → R U) (u : U) (c : Cs) : Option (U × Cs) := match oview c u with
  | some (C', _, _) => if C' = C then (match Fm [u] c with | .ok z c' => some (z, c') | _ => none) else none
  | none => none
theorem de_negO {e : Expr} {m : ME} {pos : Pos} (O : OwnF X.prog X.w X.K X.mg X.base g k (InC X.K (g.cls C) "__neg__") ps [] Fm) (hps : ps.length = 1) (hr : Room k X.A) (hgd : X.A.guards = some []) (ha : DE X g Wx e m) : DE X g Wx (.UnaryOp .USub e pos) (m1 (fOwn1 C Fm) m) := by
  obtain ⟨fa, fd, ds, dvs, hat, F, hfn, hkp, hd, hdu, hb⟩ := O.ex
  refine ⟨fun pins s σ H Q I ⟨w, τ, c, hs, hh, q⟩ => ?_⟩
  have key : rd g Wx (UV g) m σ H fun xv H1 => ∃ w2 c2 u2 a dx fs, xv = .ref a ∧ H1 a = some (.ins (g.cls C) dx fs) ∧ HRel g w2 c2 H1 ∧ UV g w2 u2 (.ref a) ∧ PostF g w2 Q (fun _ _ _ => False) (Fm [u2] c2) := by
    refine rd_bind q hs hh fun u c1 w1 xv H1 e1 h1 r1 s1 q1 => ?_
    unfold fOwn1 at q1
    cases eo : oview c1 u with
    | none => rw [eo] at q1; exact q1.elim
    | some t =>
      obtain ⟨C', ns, xs⟩ := t
      rw [eo] at q1
      dsimp only at q1
      split at q1
      · rename_i hC
        subst hC
        obtain ⟨a, dx, vs, rfl, hA, hl, rs⟩ := oview_ok h1 r1 eo
        refine ⟨w1, c1, u, a, dx, _, rfl, hA, h1, r1, ?_⟩
        revert q1
        cases Fm [u] c1 with
        | ok z c2 => exact fun q1 => q1
        | exc _ _ => exact fun q1 => q1.elim
        | bad => exact fun q1 => q1.elim
      · exact q1.elim
  refine wpAny_UnaryOp (thn (ha.run pins s σ H _ I key) fun u s1 ⟨xv, H1, I1, rx, w2, c2, u2, a, dx, fs, ex, hA, h2, r2, q2⟩ => ?_)
  subst ex
  cases (show u = Value.ref a from rx)
  obtain ⟨mA, O1, _⟩ := ins_get I1.hok hA
  obtain ⟨od, J, _⟩ := O1.look
  obtain ⟨m, hF⟩ := I1.fr
  refine PySem.W.ksp_neg hF I1.ok.mod.kin J hat hfn ?_
  have hdv : dvs = [] := by have := hdu w; cases (show dvs = [] from this); rfl
  exact runGA (us := [.ref a]) (vs := [.ref a]) hr hgd I1.env0 F I1 hb hd (.cons rfl .nil) (by rw [hps]; rfl) h2 (by subst hdv; exact ⟨_, _, rfl, r2, rfl⟩) q2
end
end Mi
/-! MjD: n == x, x an instance -/
namespace Mi
open PySem PySem.Spec PyProof.Rows L2
section
variable {X : Cx} {g : Gc} {Wx : WX} {k j : Nat} {ps : List Str} {Fm : List U → Cs → R U} {C : Nat} {pins : List (Addr × Obj)} {σ : L2.St} {H : Hp} {s : Shared} {Q : VK}
theorem int_declines_ins {prog : Program} {w : World} {A' : Around} {E : Value → Shared → Prop} {i : Int} {t : Tok} {b Ca dx : Addr} {s : Shared} {Q : Value → Shared → Prop} (hb : s.heap.get? b = some (PySem.W.instObj Ca dx)) (h : Q .notImplemented s) :
    wpAny (model prog w) A' (call (.builtin "int.__eq__") [.int i t, .ref b]) Q E s := by
  refine GQ.call_here F.slot_int_eq (T := "int") rfl F.entry_int_eq (by unfold argsOk; kernel_rfl) ?_
  obtain ⟨hp, g, d, tk, os⟩ := s
  have hl := hb
  wp_walk using AutoSeq1.wpAny_loadPart' hl, wpAny_load hl
  exact h
/-- the right operand is an instance of C whose own __eq__ answers -/
def fOwnR (C : Nat) (Fm : List U → Cs → R U) (u v : U) (c : Cs) : Option (U × Cs) := match u with
  | .int _ => (match oview c v with
    | some (C', _, _) => if C' = C then (match Fm [v, u] c with | .ok z c' => some (z, c') | _ => none) else none
    | none => none)
  | _ => none
def rOwnR (g : Gc) (C : Nat) (Fm : List U → Cs → R U) : R2 := fun x y H Q => ∃ w c u v i b dx fs, HRel g w c H ∧ UV g w u x ∧ UV g w v y ∧ x = .int i ∧ y = .ref b ∧ H b = some (.ins (g.cls C) dx fs) ∧ PostF g w Q (fun _ _ _ => False) (Fm [v, u] c)
theorem ownR_u : OpU g (fOwnR C Fm) (rOwnR g C Fm) := by
  intro w c H u v x y z c' Q hh ru rv e h
  unfold fOwnR at e
  split at e
  · rename_i i
    split at e
    · rename_i C' ns xs eo
      split at e
      · rename_i hC
        subst hC
        obtain ⟨b, dx, vs, rfl, hB, hl, rs⟩ := oview_ok hh rv eo
        refine ⟨w, c, _, v, i, b, dx, _, hh, ru, rv, ru, rfl, hB, ?_⟩
        cases ef : Fm [v, .int i] c with
        | ok z' c1 => rw [ef] at e; cases e; exact h
        | exc _ _ => rw [ef] at e; cases e
        | bad => rw [ef] at e; cases e
      · cases e
    · cases e
  · cases e
theorem op_eqR (hsub : PySem.W.subIn X.K (.ref (g.cls C)) (.type "int") = some false) (O : OwnF X.prog X.w X.K X.mg X.base g k (InC X.K (g.cls C) "__eq__") ps [] Fm) (hps : ps.length = 2) (hr : Room k X.A) (hgd : X.A.guards = some []) :
    OpR X (compareOp .Eq) (rOwnR g C Fm) := by
  obtain ⟨fa, fd, ds, dvs, hat, F, hfn, hkp, hd, hdu, hb⟩ := O.ex
  intro pins s σ H x y v u Q I rx ry h
  obtain ⟨w, c, uu, vv, i, b, dx, fs, hh, r1, r2, rfl, rfl, hB, q⟩ := h
  obtain ⟨t, rfl⟩ := (show ∃ t, v = Value.int i t from rx)
  cases (show u = Value.ref b from ry)
  obtain ⟨mA, O1, _⟩ := ins_get I.hok hB
  obtain ⟨od, J, _⟩ := O1.look
  have hdv : dvs = [] := by have := hdu w; cases (show dvs = [] from this); rfl
  have two : wpAny (model X.prog X.w) X.A (tryCompare (.ref b) "__eq__" (.int i t)) (fun r s' => ∃ v, r = some v ∧ EP X pins σ Q v s') X.xe s := by
    unfold tryCompare
    refine wpAny_bind (PySem.W.ifBound_K I.kIn J hat hfn (wpAny_mono (runGA (us := [.ref b, .int i t]) (vs := [.ref b, .int i]) hr hgd I.env0 F I hb hd (.cons rfl (.cons ⟨t, rfl⟩ .nil)) (by rw [hps]; rfl) hh (by subst hdv; exact ⟨_, _, rfl, r2, _, _, rfl, r1, rfl⟩) q) (fun z s' hz => ?_) fun _ _ e => e))
    obtain ⟨z', H', I', rz, qz⟩ := hz
    have cb := SlX.cmpback (P := EP X pins σ Q) rz ⟨z', H', I', rz, qz⟩
    cases z <;> first | exact cb.elim | exact wpAny_pure ⟨_, rfl, cb⟩
  show wpAny _ _ (richCompare .Eq (.int i t) (.ref b)) _ _ _
  unfold richCompare
  have hT : s.TypeIs (.int i t) "int" := rfl
  simp only [hT.oneThing_none, cmpInfo]
  refine wpAny_holding (wpAny_bind (wpAny_cRoomFor hr.units0 ?_))
  refine wpAny_bind ((PySem.W.Looks.of_pure (M := model X.prog X.w) (h := s.heap) (show typeOf (.int i t) = pure (.type "int") from rfl)).here (wpAny_bind (J.type.here ?_)))
  have hne : (Value.type "int" != Value.ref (g.cls C)) = true := by simp
  rw [if_pos hne]
  refine wpAny_bind ((PySem.W.looks_subIn I.kIn hsub).here ?_)
  simp only [Bool.false_eq_true, if_false]
  refine wpAny_bind (wpAny_tryCompare_declines hT PySem.F.slot_int_eq (int_declines_ins O1.obj ⟨rfl, ?_⟩))
  simp only [Bool.not_false, if_true]
  refine wpAny_bind (wpAny_mono two (fun r s' z => ?_) fun _ _ e => e)
  obtain ⟨v, rfl, hq⟩ := z
  exact wpAny_pure hq
end
end Mi
/-! MjE: == of lists and tuples whose items answer by themselves, True or False -/
namespace Mi
open PySem PySem.SeqAt
open AutoSeq1 (wpAny_loadPart')
open MeetsSeq MeetsSeq2 MeetsSeq3 SeqRoads2
section
variable {prog : Program} {w : World} {A : Around} {R : Result → Shared → Prop} {E : Value → Shared → Prop}
/-- turn i reads both lists anew; the items' == gives B i -/
def LTurn (prog : Program) (w : World) (A : Around) (E : Value → Shared → Prop) (p q : Addr) (n : Nat) (B : Nat → Bool) (J : Nat → Shared → Prop) (Jf : Shared → Prop) : Prop :=
  ∀ i s, J i s → ∃ (xs ys : Array Value) (n1 n2 : Nat), s.heap.get? p = some { cls := .type "list", data := .seq xs n1 } ∧ s.heap.get? q = some { cls := .type "list", data := .seq ys n2 } ∧ xs.size = n ∧ ys.size = n ∧
    ∀ (h1 : i < xs.size) (h2 : i < ys.size), wpAny (model prog w) A.in1 (eqBool xs[i] ys[i]) (fun r s' => r = B i ∧ (B i = true → J (i + 1) s') ∧ (B i = false → Jf s')) E s
/-- where a difference was found, the lists still stand -/
def LEnd (p q : Addr) (n : Nat) (Jf : Shared → Prop) : Prop := ∀ s, Jf s → ∃ (xs ys : Array Value) (n1 n2 : Nat), s.heap.get? p = some { cls := .type "list", data := .seq xs n1 } ∧ s.heap.get? q = some { cls := .type "list", data := .seq ys n2 } ∧ xs.size = n ∧ ys.size = n
theorem lloop (p q : Addr) (n : Nat) (B : Nat → Bool) (J : Nat → Shared → Prop) (Jf : Shared → Prop) (ht : LTurn prog w A (fun e s' => R (.error e) s') p q n B J Jf) (hf : LEnd p q n Jf) (yes : ∀ s, J n s → R (.ok (.ret (.bool true))) s)
    (no : ∀ s, Jf s → R (.ok (.ret (.bool false))) s) : ∀ (m i : Nat), n - i = m → i ≤ n → (∀ j, i ≤ j → j < n → B j = true ∨ True) → ∀ s, J i s →
      wpAny (model prog w) A.in1 (Builtin.«list.__eq__.loop» ⟨[.ref p, .ref q, rawInt i, rawInt 2], []⟩) (GQ.FinOf prog w A R) (fun e s' => R (.error e) s') s := by
  intro m
  induction m with
  | zero =>
    intro i hm hi _ s hj
    obtain ⟨xs, ys, n1, n2, ep, eq, z1, z2, _⟩ := ht i s hj
    have : i = n := by omega
    subst this
    have goal := yes s hj
    obtain ⟨hp, g, d, tk, os⟩ := s
    wp_walk using wpAny_loadPart' ep, wpAny_loadPart' eq
    have o1 : xs[((i : Nat) : Int).toNat]? = none := by simp; omega
    have o2 : ys[((i : Nat) : Int).toNat]? = none := by simp; omega
    rw [o1, o2]
    wp_walk using wpAny_loadPart' ep, wpAny_loadPart' eq
    show R (.ok (.ret (.bool (xs.size == ys.size)))) _
    rw [z1, z2]
    simpa using goal
  | succ m ih =>
    intro i hm hi _ s hj
    obtain ⟨xs, ys, n1, n2, ep, eq, z1, z2, turn⟩ := ht i s hj
    have l1 : i < xs.size := by omega
    have l2 : i < ys.size := by omega
    have one := turn l1 l2
    obtain ⟨hp, g, d, tk, os⟩ := s
    wp_walk using wpAny_loadPart' ep, wpAny_loadPart' eq
    have o1 : xs[((i : Nat) : Int).toNat]? = some xs[i] := by simp [l1]
    have o2 : ys[((i : Nat) : Int).toNat]? = some ys[i] := by simp [l2]
    have oc : ((i : Int) + 1) = ((i + 1 : Nat) : Int) := by omega
    rw [o1, o2]
    refine wpAny_bind (wpAny_mono one (fun r s2 hr => ?_) fun _ _ x => x)
    obtain ⟨rfl, hj2, hj3⟩ := hr
    cases hB : B i with
    | true =>
      have hj2 := hj2 hB
      have nxt := ih (i + 1) (by omega) (by omega) (fun _ _ _ => .inr trivial) s2 hj2
      obtain ⟨hp2, g2, d2, tk2, os2⟩ := s2
      wp_walk
      rw [oc]
      exact ⟨plainId_quiet plain_eq_loop _, codeAny_builtin entry_eq_loop (by
        rw [Around.under_plainId plain_eq_loop _]
        exact nxt)⟩
    | false =>
      have goal := no s2 (hj3 hB)
      obtain ⟨xs2, ys2, n3, n4, ep2, eq2, z3, z4⟩ := hf s2 (hj3 hB)
      obtain ⟨hp2, g2, d2, tk2, os2⟩ := s2
      wp_walk using wpAny_loadPart' ep2, wpAny_loadPart' eq2
      have l3 : i < xs2.size := by omega
      have l4 : i < ys2.size := by omega
      have o3 : xs2[((i : Nat) : Int).toNat]? = some xs2[i] := by simp [l3]
      have o4 : ys2[((i : Nat) : Int).toNat]? = some ys2[i] := by simp [l4]
      rw [o3, o4]
      wp_walk
      exact goal
theorem leq (p q : Addr) (n : Nat) (B : Nat → Bool) (J : Nat → Shared → Prop) (Jf : Shared → Prop) (ht : LTurn prog w A (fun e s' => R (.error e) s') p q n B J Jf) (hf : LEnd p q n Jf) (yes : ∀ s, J n s → R (.ok (.ret (.bool true))) s)
    (no : ∀ s, Jf s → R (.ok (.ret (.bool false))) s) {s : Shared} (h : J 0 s) :
    wpAny (model prog w) A.in1 (Builtin.«list.__eq__» ⟨[.ref p, .ref q], []⟩) (GQ.FinOf prog w A R) (fun e s' => R (.error e) s') s := by
  obtain ⟨xs, ys, n1, n2, ep, eq, z1, z2, _⟩ := ht 0 s h
  have nxt := lloop p q n B J Jf ht hf yes no n 0 rfl (Nat.zero_le _) (fun _ _ _ => .inr trivial) s h
  obtain ⟨hp, g, d, tk, os⟩ := s
  have f3 := AutoSeq1.sub_list_list
  have same : ¬ (xs.size != ys.size) = true := by simp [z1, z2]
  wp_walk using wpAny_loadPart' ep, wpAny_loadPart' eq
  exact ⟨plainId_quiet plain_eq_loop _, codeAny_builtin entry_eq_loop (by
    rw [Around.under_plainId plain_eq_loop _]
    exact nxt)⟩
theorem leq_len {p q : Addr} {xs ys : Array Value} {n1 n2 : Nat} {s : Shared} (ep : s.heap.get? p = some { cls := .type "list", data := .seq xs n1 }) (eq : s.heap.get? q = some { cls := .type "list", data := .seq ys n2 }) (hz : xs.size ≠ ys.size) (h : R (.ok (.ret (.bool false))) s) :
    wpAny (model prog w) A.in1 (Builtin.«list.__eq__» ⟨[.ref p, .ref q], []⟩) (GQ.FinOf prog w A R) (fun e s' => R (.error e) s') s := by
  obtain ⟨hp, g, d, tk, os⟩ := s
  have f3 := AutoSeq1.sub_list_list
  have other : (xs.size != ys.size) = true := by simp [hz]
  wp_walk using wpAny_loadPart' ep, wpAny_loadPart' eq
  exact h
theorem lrc {p q : Addr} {n : Nat} {Q : Value → Shared → Prop} {s : Shared} (hu : A.units < cLine) (B : Nat → Bool) (J : Nat → Shared → Prop) (Jf : Shared → Prop) (ht : LTurn prog w A E p q n B J Jf) (hf : LEnd p q n Jf) (yes : ∀ s, J n s → Q (.bool true) s)
    (no : ∀ s, Jf s → Q (.bool false) s) (h : J 0 s) : wpAny (model prog w) A (richCompare .Eq (.ref p) (.ref q)) Q E s := by
  obtain ⟨xs, ys, n1, n2, ep, eq, _, _, _⟩ := ht 0 s h
  refine wpAny_richCompare_same_room (op := .Eq) ⟨_, ep, rfl⟩ ⟨_, eq, rfl⟩ F.slot_list_eq (GQ.call_here F.slot_list_eq ⟨_, ep, rfl⟩ F.entry_list_eq (F.args_list_eq_2 _ _) ?_) hu
  exact leq (R := wants (fun v s' => v ≠ .notImplemented ∧ Q v s') E) p q n B J Jf ht hf (fun s' y => ⟨(fun z => nomatch z), yes s' y⟩) (fun s' a => ⟨(fun z => nomatch z), no s' a⟩) h
theorem lrc_len {p q : Addr} {xs ys : Array Value} {n1 n2 : Nat} {Q : Value → Shared → Prop} {s : Shared} (hu : A.units < cLine) (ep : s.heap.get? p = some { cls := .type "list", data := .seq xs n1 }) (eq : s.heap.get? q = some { cls := .type "list", data := .seq ys n2 }) (hz : xs.size ≠ ys.size) (h : Q (.bool false) s) :
    wpAny (model prog w) A (richCompare .Eq (.ref p) (.ref q)) Q E s := by
  refine wpAny_richCompare_same_room (op := .Eq) ⟨_, ep, rfl⟩ ⟨_, eq, rfl⟩ F.slot_list_eq (GQ.call_here F.slot_list_eq ⟨_, ep, rfl⟩ F.entry_list_eq (F.args_list_eq_2 _ _) ?_) hu
  exact leq_len (R := wants (fun v s' => v ≠ .notImplemented ∧ Q v s') E) ep eq hz ⟨(fun z => nomatch z), h⟩
theorem teq {p q : Addr} {xs ys : Array Value} {n1 n2 : Nat} {dp dq : Option Addr} {sp sq : Array (Option Value)} (hz : xs.size = ys.size) (B : Nat → Bool) (J : Nat → Shared → Prop) (Jf : Shared → Prop)
    (turn : ∀ i (h1 : i < xs.size) (h2 : i < ys.size) s, J i s → wpAny (model prog w) A.in1 (eqBool xs[i] ys[i]) (fun r s' => r = B i ∧ (B i = true → J (i + 1) s') ∧ (B i = false → Jf s')) (fun e s' => R (.error e) s') s)
    (yes : ∀ s, J xs.size s → R (.ok (.ret (.bool true))) s) (no : ∀ s, Jf s → R (.ok (.ret (.bool false))) s) {s : Shared}
    (ep : s.heap.get? p = some { cls := .type "tuple", dict := dp, data := .seq xs n1, slots := sp }) (eq : s.heap.get? q = some { cls := .type "tuple", dict := dq, data := .seq ys n2, slots := sq }) (h : J 0 s) :
    wpAny (model prog w) A.in1 (Builtin.«tuple.__eq__» ⟨[.ref p, .ref q], []⟩) (GQ.FinOf prog w A R) (fun e s' => R (.error e) s') s := by
  have f2 := AutoSeq1.sub_tuple_tuple
  have hl : (xs.toList.zip ys.toList).length = xs.size := by simp [hz]
  have h0 := h
  obtain ⟨hp, g, d, tk, os⟩ := s
  wp_walk using wpAny_loadPart' ep, wpAny_loadPart' eq, wpAny_forIn_list _ (fun rest b s' => b.1 = none ∧ ∃ i, rest = (xs.toList.zip ys.toList).drop i ∧ i ≤ xs.size ∧ J i s') _
  case turn =>
    rintro ⟨y, x⟩ rest b s' ⟨hb, i, hd, hi, hj⟩
    have lt : i < (xs.toList.zip ys.toList).length := by
      rcases Nat.lt_or_ge i (xs.toList.zip ys.toList).length with z | z
      · exact z
      · rw [List.drop_of_length_le z] at hd; cases hd
    have l1 : i < xs.size := hl ▸ lt
    have l2 : i < ys.size := hz ▸ l1
    rw [List.drop_eq_getElem_cons lt] at hd
    injection hd with hyx hrest
    obtain rfl : y = xs[i] := by have := congrArg Prod.fst hyx; simpa using this
    obtain rfl : x = ys[i] := by have := congrArg Prod.snd hyx; simpa using this
    refine wpAny_bind (wpAny_mono (turn i l1 l2 s' hj) (fun r s2 hr => ?_) fun _ _ x => x)
    obtain ⟨rfl, hj2, hj3⟩ := hr
    cases hB : B i with
    | true =>
      wp_walk
      exact ⟨rfl, i + 1, hrest, l1, hj2 hB⟩
    | false =>
      have goal := no s2 (hj3 hB)
      wp_walk
      exact goal
  case fin =>
    rintro ⟨b1, b2⟩ s' ⟨hb, i, hd, hi, hj⟩
    simp only at hb
    subst hb
    have ge : xs.size ≤ i := by
      rcases Nat.lt_or_ge i (xs.toList.zip ys.toList).length with z | z
      · rw [List.drop_eq_getElem_cons z] at hd; cases hd
      · exact hl ▸ z
    obtain rfl : i = xs.size := by omega
    have goal := yes s' hj
    wp_walk
    simpa [Builtin.Tuple.tupleCompareSizes, hz] using goal
  case h =>
    exact ⟨rfl, 0, rfl, Nat.zero_le _, h0⟩
theorem trc {p q : Addr} {xs ys : Array Value} {Q : Value → Shared → Prop} {s : Shared} (hz : xs.size = ys.size) (hu : A.units < cLine) (B : Nat → Bool) (J : Nat → Shared → Prop) (Jf : Shared → Prop) (hp : s.heap.IsTuple p xs) (hq : s.heap.IsTuple q ys)
    (turn : ∀ i (h1 : i < xs.size) (h2 : i < ys.size) s, J i s → wpAny (model prog w) A.in1 (eqBool xs[i] ys[i]) (fun r s' => r = B i ∧ (B i = true → J (i + 1) s') ∧ (B i = false → Jf s')) E s)
    (yes : ∀ s, J xs.size s → Q (.bool true) s) (no : ∀ s, Jf s → Q (.bool false) s) (h : J 0 s) : wpAny (model prog w) A (richCompare .Eq (.ref p) (.ref q)) Q E s := by
  obtain ⟨⟨c1, d1, dat1, sl1⟩, e1, hc1, n1, hd1⟩ := id hp
  obtain ⟨⟨c2, d2, dat2, sl2⟩, e2, hc2, n2, hd2⟩ := id hq
  simp only at hc1 hd1 hc2 hd2
  subst hc1 hd1 hc2 hd2
  refine wpAny_richCompare_same_room (op := .Eq) ⟨_, e1, rfl⟩ ⟨_, e2, rfl⟩ F.slot_tuple_eq (GQ.call_here F.slot_tuple_eq ⟨_, e1, rfl⟩ F.entry_tuple_eq (F.args_tuple_eq_2 _ _) ?_) hu
  exact teq (R := wants (fun v s' => v ≠ .notImplemented ∧ Q v s') E) hz B J Jf turn (fun s' y => ⟨(fun z => nomatch z), yes s' y⟩) (fun s' a => ⟨(fun z => nomatch z), no s' a⟩) e1 e2 h
end
end Mi
/-! MjF: == of trees with instances of one class within -/
namespace Mi
open PySem PySem.Spec PyProof.Rows L2
def toV : U → Option V
  | .non => some .non
  | .bl b => some (.bl b)
  | .int i => some (.int i)
  | .str s => some (.str s)
  | _ => none
def flatObj (C : Nat) : U → Bool
  | .obj C' _ xs => decide (C' = C) && xs.all fun x => (toV x).isSome
  | _ => false
def lvl (c : Cs) : U → Option (List U)
  | .lst xs => some xs
  | .cel n => match c[n]? with
    | some (.lst xs) => some xs
    | _ => none
  | _ => none
open Classical in
noncomputable def eqO (C : Nat) (F : List U → Cs → R U) (c : Cs) (u v u0 v0 : U) : Option Bool := match F [u, v] c with
  | .ok (.bl b) c' => if c' = c ∧ (b = true ∨ (flatObj C u0 = true ∧ (flatObj C v0 = true ∧ u0 ≠ v0 ∨ (toV v0).isSome = true)) ∨ ((toV u0).isSome = true ∧ flatObj C v0 = true)) then some b else none
  | _ => none
def eqUs (f : U → U → Option Bool) : List U → List U → Option Bool
  | [], [] => some true
  | x :: xs, y :: ys => (f x y).bind fun b => if b then eqUs f xs ys else some false
  | _, _ => some false
noncomputable def eqU (C : Nat) (F : List U → Cs → R U) (c : Cs) : Nat → U → U → Option Bool
  | 0, _, _ => none
  | n + 1, u, v => match toV u, toV v with
    | some x, some y => some (eqV x y)
    | _, _ => match oview c u, oview c v with
      | some (C1, _, _), some (C2, _, _) => if C1 = C ∧ C2 = C then eqO C F c u v u v else none
      | some (C1, _, _), none => if C1 = C ∧ (toV v).isSome = true then eqO C F c u v u v else none
      | none, some (C2, _, _) => if C2 = C ∧ isI u = true then eqO C F c v u u v else none
      | none, none => match lvl c u, lvl c v with
        | some xs, some ys => if xs.length = ys.length then eqUs (eqU C F c n) xs ys else some false
        | _, _ => match u, v with
          | .tup xs, .tup ys => if xs.length = ys.length then eqUs (eqU C F c n) xs ys else none
          | _, _ => none
section
variable {g : Gc} {w : Wd} {c : Cs} {H : Hp} {C : Nat} {F : List U → Cs → R U}
theorem toV_ok {u : U} {v x : V} (r : UV g w u v) (e : toV u = some x) : v = x ∧ flatV x = true := by
  cases u <;> first | (cases e; exact ⟨r, rfl⟩) | cases e
theorem eqV_refl {x : V} (h : flatV x = true) : eqV x x = true := by
  cases x with
  | non => rfl
  | bl b => cases b <;> rfl
  | int i => simp [eqV]
  | str s => simp [eqV]
  | _ => cases h
theorem lvl_ok {u : U} {v : V} {xs : List U} (hh : HRel g w c H) (r : UV g w u v) (e : lvl c u = some xs) : ∃ a vs, v = .ref a ∧ H a = some (.lst vs) ∧ UVs g w xs vs := by
  cases u with
  | lst ys => cases e; obtain ⟨a, vs, rfl, q, rr⟩ := r; exact ⟨a, vs, rfl, hh.fz _ _ q, rr⟩
  | cel n =>
    obtain ⟨a, e1, rfl⟩ := r
    unfold lvl at e
    dsimp only at e
    split at e
    · rename_i q
      cases e
      obtain ⟨a', e2, ⟨vs, h1, h2⟩, _⟩ := hh.cel n _ q
      rw [e1] at e2; cases e2
      exact ⟨a, vs, rfl, h1, h2⟩
    · cases e
  | _ => cases e
theorem flats_inj : ∀ {xs ys : List U} {vs : List V}, (xs.all fun x => (toV x).isSome) = true → (ys.all fun x => (toV x).isSome) = true → UVs g w xs vs → UVs g w ys vs → xs = ys
  | [], [], _, _, _, _, _ => rfl
  | [], y :: ys, _, _, _, r, r' => by
    cases (show _ = [] from r)
    obtain ⟨_, _, e, _⟩ := r'
    cases e
  | x :: xs, [], _, _, _, r, r' => by
    cases (show _ = [] from r')
    obtain ⟨_, _, e, _⟩ := r
    cases e
  | x :: xs, y :: ys, _, h, h', ⟨v, t, e, q, rt⟩, ⟨v', t', e', q', rt'⟩ => by
    subst e
    cases e'
    simp only [List.all_cons, Bool.and_eq_true] at h h'
    obtain ⟨a, ea⟩ := Option.isSome_iff_exists.mp h.1
    obtain ⟨b, eb⟩ := Option.isSome_iff_exists.mp h'.1
    have e1 := (toV_ok q ea).1
    have e2 := (toV_ok q' eb).1
    have : a = b := e1.symm.trans e2
    subst this
    rw [flats_inj h.2 h'.2 rt rt']
    congr 1
    cases x <;> cases y <;> first | rfl | (cases ea; cases eb; rfl) | (cases ea; cases eb) | cases ea | cases eb
theorem flat_ne {u v : U} {a : Addr} (hu : flatObj C u = true) (hv : flatObj C v = true) (r : UV g w u (.ref a)) (r' : UV g w v (.ref a)) : u = v := by
  cases u with
  | obj C1 ns xs =>
    cases v with
    | obj C2 ms ys =>
      simp only [flatObj, Bool.and_eq_true, decide_eq_true_eq] at hu hv
      obtain ⟨a1, d1, vs, e1, q1, l1, r1⟩ := r
      obtain ⟨a2, d2, ws, e2, q2, l2, r2⟩ := r'
      cases e1; cases e2
      rw [q1] at q2
      have q3 := Option.some.inj q2
      injection q3 with _ _ hz
      have h1 : ns = ms := by
        have := congrArg (List.map Prod.fst) hz
        rwa [List.map_fst_zip (by omega), List.map_fst_zip (by omega)] at this
      have h2 : vs = ws := by
        have := congrArg (List.map Prod.snd) hz
        rwa [List.map_snd_zip (by omega), List.map_snd_zip (by omega)] at this
      subst h1 h2
      rw [hu.1, hv.1, flats_inj hu.2 hv.2 r1 r2]
    | _ => cases hv
  | _ => cases hu
/-- what is told apart is not the same thing -/
theorem eqO_ne {u v u0 v0 : U} {x : V} (h : eqO C F c u v u0 v0 = some false) (ru : UV g w u0 x) (rv : UV g w v0 x) : False := by
  unfold eqO at h
  split at h
  · split at h
    · rename_i b c' hF hc
      cases h
      rcases hc.2 with z | ⟨h1, ⟨h2, h3⟩ | h3⟩ | ⟨h1, h2⟩
      · cases z
      · obtain ⟨a, rfl⟩ : ∃ a, x = .ref a := by
          cases u0 with
          | obj C' ns xs => obtain ⟨a, _, _, e, _⟩ := ru; exact ⟨a, e⟩
          | _ => cases h1
        exact h3 (flat_ne h1 h2 ru rv)
      · obtain ⟨y, ey⟩ := Option.isSome_iff_exists.mp h3
        have := (toV_ok rv ey)
        cases u0 with
        | obj C' ns xs =>
          obtain ⟨a, _, _, e, _⟩ := ru
          rw [e] at this
          rw [← this.1] at this
          cases this.2
        | _ => cases h1
      · obtain ⟨y, ey⟩ := Option.isSome_iff_exists.mp h1
        have := (toV_ok ru ey)
        cases v0 with
        | obj C' ns xs =>
          obtain ⟨a, _, _, e, _⟩ := rv
          rw [e] at this
          rw [← this.1] at this
          cases this.2
        | _ => cases h2
    · cases h
  · cases h
theorem eqUs_ne {f : U → U → Option Bool} (hf : ∀ u v x, f u v = some false → UV g w u x → UV g w v x → False) : ∀ {xs ys : List U} {vs : List V}, xs.length = ys.length → eqUs f xs ys = some false → UVs g w xs vs → UVs g w ys vs → False
  | [], [], _, _, h, _, _ => by cases h
  | [], _ :: _, _, hl, _, _, _ => by cases hl
  | _ :: _, [], _, hl, _, _, _ => by cases hl
  | x :: xs, y :: ys, _, hl, h, ⟨v, t, e, q, rt⟩, ⟨v', t', e', q', rt'⟩ => by
    subst e
    cases e'
    unfold eqUs at h
    cases hb : f x y with
    | none => rw [hb] at h; cases h
    | some b =>
      rw [hb] at h
      cases b with
      | false => exact hf x y v hb q q'
      | true => exact eqUs_ne hf (by simpa using hl) h rt rt'
theorem eqU_ne : ∀ (n : Nat) (u v : U) (x : V), HRel g w c H → eqU C F c n u v = some false → UV g w u x → UV g w v x → False
  | 0, _, _, _, _, h, _, _ => by cases h
  | n + 1, u, v, x, hh, h, ru, rv => by
    unfold eqU at h
    split at h
    · rename_i a b ea eb
      obtain ⟨rfl, f1⟩ := toV_ok ru ea
      obtain ⟨e2, f2⟩ := toV_ok rv eb
      subst e2
      rw [eqV_refl f1] at h
      cases h
    · split at h
      · split at h
        · exact eqO_ne h ru rv
        · cases h
      · split at h
        · exact eqO_ne h ru rv
        · cases h
      · split at h
        · exact eqO_ne h ru rv
        · cases h
      · split at h
        · rename_i xs ys e1 e2
          obtain ⟨a, vs, rfl, h1, r1⟩ := lvl_ok hh ru e1
          obtain ⟨a', ws, e, h2, r2⟩ := lvl_ok hh rv e2
          cases e
          rw [h1] at h2
          cases h2
          split at h
          · rename_i hl
            exact eqUs_ne (fun u v x e p q => eqU_ne n u v x hh e p q) hl h r1 r2
          · rename_i hl
            exact hl (r1.length.trans r2.length.symm)
        · split at h
          · rename_i xs ys _
            obtain ⟨a, vs, rfl, h1, r1⟩ := ru
            obtain ⟨a', ws, e, h2, r2⟩ := rv
            cases e
            rw [h1] at h2
            cases h2
            split at h
            · rename_i hl
              exact eqUs_ne (fun u v x e p q => eqU_ne n u v x hh e p q) hl h r1 r2
            · cases h
          · cases h
end
/-! ### the run -/
section
variable {X : Cx} {g : Gc} {C k : Nat} {F : List U → Cs → R U} {ps : List Str} {pins : List (Addr × Obj)} {σ : L2.St}
/-- somewhere below the body -/
structure Bel (X : Cx) (n : Nat) (A : Around) : Prop where
  room : Room n A
  fr : A.frames = X.A.frames
  gd : A.guards = some []
theorem Bel.in1 {n : Nat} {A : Around} (b : Bel X (n + 1) A) : Bel X n A.in1 := ⟨b.room.in1, b.fr, in1_guards b.gd⟩
theorem Bel.mono {m n : Nat} {A : Around} (b : Bel X n A) (h : m ≤ n) : Bel X m A := ⟨b.room.mono h, b.fr, b.gd⟩
theorem Bel.env {n : Nat} {A : Around} {H : Hp} {s : Shared} (b : Bel X n A) (I : Inv X pins σ H s) : Env0 X.prog X.w X.K X.mg X.base A X.stack s H := by
  have e := I.env0
  exact ⟨b.fr.trans e.frames, e.mod, e.bs, e.bsz, e.funs, e.frf, e.hok, e.bare⟩
/-- the facts of the class -/
structure EqC (X : Cx) (g : Gc) (C k : Nat) (F : List U → Cs → R U) : Prop where
  O : OwnF X.prog X.w X.K X.mg X.base g k (InC X.K (g.cls C) "__eq__") ["self", "other"] [] F
  cm : CmpC X.K (g.cls C)
  hsub : PySem.W.subIn X.K (.ref (g.cls C)) (.type "int") = some false
  hK : X.K = g.K
abbrev After (X : Cx) (g : Gc) (pins : List (Addr × Obj)) (σ : L2.St) (w : Wd) (c : Cs) (s' : Shared) : Prop := ∃ w' H', Ext w w' ∧ Inv X pins σ H' s' ∧ HRel g w' c H'
theorem own_run (E : EqC X g C k F) {A' : Around} (b : Bel X k A') {w : Wd} {c : Cs} {H : Hp} {s : Shared} {p q p0 q0 : U} {a : Addr} {y : V} {v : Value} {r : Bool} {dx : Addr} {fs : List (Str × V)} (I : Inv X pins σ H s) (ry : RelV y v) (hh : HRel g w c H) (rp : UV g w p (.ref a)) (rq : UV g w q y)
    (e : eqO C F c p q p0 q0 = some r) : wpAny (model X.prog X.w) A' (call (.ref E.O.ex.choose) [.ref a, v]) (fun z s' => z = .bool r ∧ After X g pins σ w c s') X.xe s := by
  obtain ⟨fd, ds, dvs, hat, Fn, hfn, hkp, hd, hdu, hb⟩ := E.O.ex.choose_spec
  have hdv : dvs = [] := by have := hdu w; cases (show dvs = [] from this); rfl
  subst hdv
  unfold eqO at e
  split at e
  · rename_i b0 c' hF
    split at e
    · rename_i hc
      cases e
      have q1 : PostF g w (fun z H' => z = .bl r ∧ ∃ w', Ext w w' ∧ HRel g w' c H') (fun _ _ _ => False) (F [p, q] c) := by
        rw [hF, hc.1]
        exact fun w' z H' e' h' r' => ⟨r', w', e', h'⟩
      refine wpAny_mono (runGA (us := [.ref a, v]) (vs := [.ref a, y]) (uu := [p, q]) b.room b.gd (b.env I) Fn I hb hd (.cons rfl (.cons ry .nil)) rfl hh ⟨_, _, rfl, rp, _, _, rfl, rq, rfl⟩ q1) (fun z s' hz => ?_) fun _ _ x => x
      obtain ⟨z', H', I', rz, rfl, w', e', h'⟩ := hz
      exact ⟨rz, w', H', e', I', h'⟩
    · cases e
  · cases e
theorem eqB_ref {A' : Around} {a : Addr} {v : Value} {r : Bool} {P : Shared → Prop} {s : Shared} (same : v = .ref a → r = true ∧ P s) (h : wpAny (model X.prog X.w) A' (richCompare .Eq (.ref a) v) (fun z s' => z = .bool r ∧ P s') X.xe s) :
    wpAny (model X.prog X.w) A' (eqBool (.ref a) v) (fun z s' => z = r ∧ P s') X.xe s := by
  unfold eqBool
  refine wpAny_holding (wpAny_ite_split (fun hab => ?_) (fun _ => ?_))
  · obtain ⟨rfl, hp⟩ := same (eq_of_beq hab).symm
    exact wpAny_bind (wpAny_rule (wpAny_pure ⟨rfl, hp⟩))
  · refine wpAny_bind (wpAny_mono h (fun z s' hz => ?_) fun _ _ x => x)
    obtain ⟨rfl, hp⟩ := hz
    exact wpAny_truthy_bool ⟨rfl, hp⟩
theorem eqB_int {A' : Around} {i : Int} {t : Tok} {b : Addr} {r : Bool} {P : Shared → Prop} {s : Shared} (h : wpAny (model X.prog X.w) A' (richCompare .Eq (.int i t) (.ref b)) (fun z s' => z = .bool r ∧ P s') X.xe s) :
    wpAny (model X.prog X.w) A' (eqBool (.int i t) (.ref b)) (fun z s' => z = r ∧ P s') X.xe s := by
  unfold eqBool
  refine wpAny_holding (wpAny_ite_split (fun hab => ?_) (fun _ => ?_))
  · have := eq_of_beq hab
    cases this
  · refine wpAny_bind (wpAny_mono h (fun z s' hz => ?_) fun _ _ x => x)
    obtain ⟨rfl, hp⟩ := hz
    exact wpAny_truthy_bool ⟨rfl, hp⟩
/-- n == x at any depth -/
theorem rcR_run (E : EqC X g C k F) {A' : Around} (b : Bel X k A') {w : Wd} {c : Cs} {H : Hp} {s : Shared} {p q p0 q0 : U} {i : Int} {t : Tok} {e : Addr} {r : Bool} {dx : Addr} {fs : List (Str × V)} (I : Inv X pins σ H s) (hh : HRel g w c H) (rp : UV g w p (.int i)) (rq : UV g w q (.ref e)) (hB : H e = some (.ins (g.cls C) dx fs))
    (h : eqO C F c q p p0 q0 = some r) : wpAny (model X.prog X.w) A' (richCompare .Eq (.int i t) (.ref e)) (fun z s' => z = .bool r ∧ After X g pins σ w c s') X.xe s := by
  obtain ⟨fd, ds, dvs, hat, Fn, hfn, hkp, hd, hdu, hb⟩ := E.O.ex.choose_spec
  obtain ⟨mA, O1, _⟩ := ins_get I.hok hB
  obtain ⟨od, J, _⟩ := O1.look
  have two : wpAny (model X.prog X.w) A' (tryCompare (.ref e) "__eq__" (.int i t)) (fun z s' => z = some (.bool r) ∧ After X g pins σ w c s') X.xe s := by
    unfold tryCompare
    refine wpAny_bind (PySem.W.ifBound_K I.kIn J hat hfn (wpAny_mono (own_run E b (dx := dx) (fs := fs) I (y := .int i) ⟨t, rfl⟩ hh rq rp h) (fun z s' hz => ?_) fun _ _ e => e))
    obtain ⟨rfl, ha⟩ := hz
    exact wpAny_pure ⟨rfl, ha⟩
  unfold richCompare
  have hT : s.TypeIs (.int i t) "int" := rfl
  simp only [hT.oneThing_none, cmpInfo]
  refine wpAny_holding (wpAny_bind (wpAny_cRoomFor b.room.units0 ?_))
  refine wpAny_bind ((PySem.W.Looks.of_pure (M := model X.prog X.w) (h := s.heap) (show typeOf (.int i t) = pure (.type "int") from rfl)).here (wpAny_bind (J.type.here ?_)))
  have hne : (Value.type "int" != Value.ref (g.cls C)) = true := by simp
  rw [if_pos hne]
  refine wpAny_bind ((PySem.W.looks_subIn I.kIn E.hsub).here ?_)
  simp only [Bool.false_eq_true, if_false]
  refine wpAny_bind (wpAny_tryCompare_declines hT PySem.F.slot_int_eq (int_declines_ins O1.obj ⟨rfl, ?_⟩))
  simp only [Bool.not_false, if_true]
  refine wpAny_bind (wpAny_mono two (fun z s' hz => ?_) fun _ _ e => e)
  obtain ⟨rfl, ha⟩ := hz
  exact wpAny_pure ⟨rfl, ha⟩
/-- x == .. at any depth, x an instance -/
theorem rcO_run (E : EqC X g C k F) {A' : Around} (b : Bel X k A') {w : Wd} {c : Cs} {H : Hp} {s : Shared} {p q p0 q0 : U} {a : Addr} {y : V} {v ty : Value} {r : Bool} {dx : Addr} {fs : List (Str × V)} (I : Inv X pins σ H s) (ry : RelV y v) (hh : HRel g w c H) (rp : UV g w p (.ref a)) (rq : UV g w q y) (hA : H a = some (.ins (g.cls C) dx fs))
    (hty : TyOf X.K H y ty) (hnf : PySem.W.notFirst X.K (g.cls C) ty = true) (h : eqO C F c p q p0 q0 = some r) : wpAny (model X.prog X.w) A' (richCompare .Eq (.ref a) v) (fun z s' => z = .bool r ∧ After X g pins σ w c s') X.xe s := by
  obtain ⟨fd, ds, dvs, hat, Fn, hfn, hkp, hd, hdu, hb⟩ := E.O.ex.choose_spec
  obtain ⟨mA, O1, _⟩ := ins_get I.hok hA
  obtain ⟨od, J, _⟩ := O1.look
  obtain ⟨m, hF⟩ := I.fr
  refine PySem.W.cmp_K (op := .Eq) (tb := ty) b.room.units0 hF I.ok.mod.kin J (looks_ty I ry hty) hnf hat hfn (wpAny_mono (own_run E b (dx := dx) (fs := fs) I ry hh rp rq h) (fun z s' hz => ?_) fun _ _ e => e)
  obtain ⟨rfl, ha⟩ := hz
  exact ⟨rfl, ha⟩
theorem get_list {its : List Value} {i : Nat} (h : i < its.toArray.size) : its[i]? = some its.toArray[i] := by
  have h' : i < its.length := by simpa using h
  rw [List.getElem?_eq_getElem h']; simp
theorem eqUs_at {f : U → U → Option Bool} {r : Bool} : ∀ {xs ys : List U} {i : Nat}, xs.length = ys.length → i < xs.length → eqUs f (xs.drop i) (ys.drop i) = some r →
    ∃ x y b, xs[i]? = some x ∧ ys[i]? = some y ∧ f x y = some b ∧ (b = true → eqUs f (xs.drop (i + 1)) (ys.drop (i + 1)) = some r) ∧ (b = false → r = false) := by
  intro xs ys i hl hi h
  have hi2 : i < ys.length := by omega
  rw [List.drop_eq_getElem_cons hi, List.drop_eq_getElem_cons hi2] at h
  unfold eqUs at h
  cases hb : f xs[i] ys[i] with
  | none => rw [hb] at h; cases h
  | some b =>
    rw [hb] at h
    refine ⟨xs[i], ys[i], b, List.getElem?_eq_getElem hi, List.getElem?_eq_getElem hi2, hb, fun hbt => ?_, fun hbf => ?_⟩
    · subst hbt; exact h
    · subst hbf; exact (Option.some.inj h).symm
/-- THE RUN: == as the items of lists and tuples are compared -/
def EqRun (X : Cx) (g : Gc) (C k : Nat) (F : List U → Cs → R U) (pins : List (Addr × Obj)) (σ : L2.St) (n : Nat) : Prop :=
  ∀ (A' : Around) (s : Shared) (H : Hp) (w : Wd) (c : Cs) (p q : U) (x y : V) (u v : Value) (r : Bool), Bel X (n + k) A' → Inv X pins σ H s → RelV x u → RelV y v → HRel g w c H → UV g w p x → UV g w q y → eqU C F c n p q = some r →
    wpAny (model X.prog X.w) A' (eqBool u v) (fun z s' => z = r ∧ After X g pins σ w c s') X.xe s
/-- .. and as == itself -/
def RcRun (X : Cx) (g : Gc) (C k : Nat) (F : List U → Cs → R U) (pins : List (Addr × Obj)) (σ : L2.St) (n : Nat) : Prop :=
  ∀ (A' : Around) (s : Shared) (H : Hp) (w : Wd) (c : Cs) (p q : U) (x y : V) (u v : Value) (r : Bool), Bel X (n + k) A' → Inv X pins σ H s → RelV x u → RelV y v → HRel g w c H → UV g w p x → UV g w q y → eqU C F c n p q = some r → (toV p = none ∨ toV q = none) →
    wpAny (model X.prog X.w) A' (richCompare .Eq u v) (fun z s' => z = .bool r ∧ After X g pins σ w c s') X.xe s
theorem rc_step (E : EqC X g C k F) {n : Nat} (ih : EqRun X g C k F pins σ n) : RcRun X g C k F pins σ (n + 1) := by
  intro A' s H w c p q x y u v r b I rx ry hh rp rq h hne
  unfold eqU at h
  split at h
  · rename_i e1 e2
    rcases hne with z | z
    · rw [e1] at z; cases z
    · rw [e2] at z; cases z
  · split at h
    · -- two instances
      rename_i C1 ns1 xs1 C2 ns2 xs2 o1 o2
      split at h
      · rename_i hC
        obtain ⟨rfl, rfl⟩ := hC
        obtain ⟨a, dx, vs, rfl, hA, _, _⟩ := oview_ok hh rp o1
        obtain ⟨a2, dx2, vs2, rfl, hB, _, _⟩ := oview_ok hh rq o2
        cases (show u = Value.ref a from rx)
        exact rcO_run E (b.mono (by omega)) I ry hh rp rq hA (.ins hB E.cm.ic.cl E.cm.ic.ha E.cm.ic.hn E.cm.ic.htk E.cm.ic.hm) E.cm.nf h
      · cases h
    · rename_i C1 ns1 xs1 o1 o2
      split at h
      · rename_i hC
        obtain ⟨rfl, hf⟩ := hC
        obtain ⟨a, dx, vs, rfl, hA, _, _⟩ := oview_ok hh rp o1
        cases (show u = Value.ref a from rx)
        have ht : ∃ t, tagU c q = some t ∧ t ∈ tags := by
          cases q with
          | non => exact ⟨"NoneType", rfl, by decide⟩
          | bl _ => exact ⟨"bool", rfl, by decide⟩
          | int _ => exact ⟨"int", rfl, by decide⟩
          | str _ => exact ⟨"str", rfl, by decide⟩
          | _ => cases hf
        obtain ⟨t, ht1, ht2⟩ := ht
        exact rcO_run E (b.mono (by omega)) I ry hh rp rq hA (E.hK ▸ tag_ok hh rq ht1) (E.cm.nt t ht2) h
      · cases h
    · rename_i C2 ns2 xs2 o1 o2
      split at h
      · rename_i hC
        obtain ⟨rfl, hf⟩ := hC
        cases p with
        | int i =>
          obtain ⟨a, dx, vs, rfl, hA, _, _⟩ := oview_ok hh rq o2
          cases (show x = _ from rp)
          obtain ⟨t, rfl⟩ := (show ∃ t, u = Value.int i t from rx)
          cases (show v = Value.ref a from ry)
          exact rcR_run E (b.mono (by omega)) I hh rp rq hA h
        | _ => cases hf
      · cases h
    · split at h
      · rename_i xs ys l1 l2
        obtain ⟨a, vs, rfl, ha, r1⟩ := lvl_ok hh rp l1
        obtain ⟨a2, ws, rfl, ha2, r2⟩ := lvl_ok hh rq l2
        cases (show u = Value.ref a from rx)
        cases (show v = Value.ref a2 from ry)
        obtain ⟨_, its, n1, rv1, e1⟩ := (show ObjOk X.prog X.w H s.heap a (.lst vs) from I.hok a _ ha)
        obtain ⟨_, its2, n2, rv2, e2⟩ := (show ObjOk X.prog X.w H s.heap a2 (.lst ws) from I.hok a2 _ ha2)
        split at h
        · rename_i hl
          refine lrc (n := xs.length) b.room.units0 (fun i => decide (((xs[i]?).bind fun x => (ys[i]?).bind fun y => eqU C F c n x y) = some true)) (fun i s' => (∃ w' H', Mi.Ext w w' ∧ Inv X pins σ H' s' ∧ HRel g w' c H') ∧ eqUs (eqU C F c n) (xs.drop i) (ys.drop i) = some r ∧ i ≤ xs.length)
            (fun s' => After X g pins σ w c s' ∧ r = false) (fun i s' hj => ?_) (fun s' hj => ?_) (fun s' hj => ?_) (fun s' hj => ?_) ⟨⟨w, H, Mi.Ext.refl w, I, hh⟩, h, Nat.zero_le _⟩
          · obtain ⟨⟨w', H', e', I', h'⟩, hrem, hle⟩ := hj
            obtain ⟨b1, vs', eb1, hb1, q1⟩ := lvl_ok h' (rp.up e') l1
            obtain ⟨b2, ws', eb2, hb2, q2⟩ := lvl_ok h' (rq.up e') l2
            cases eb1; cases eb2
            obtain ⟨_, js, m1, rw1, f1⟩ := (show ObjOk X.prog X.w H' s'.heap a (.lst vs') from I'.hok a _ hb1)
            obtain ⟨_, js2, m2, rw2, f2⟩ := (show ObjOk X.prog X.w H' s'.heap a2 (.lst ws') from I'.hok a2 _ hb2)
            have z1 : js.toArray.size = xs.length := by rw [List.size_toArray, ← rw1.length, q1.length]
            have z2 : js2.toArray.size = xs.length := by rw [List.size_toArray, ← rw2.length, ← q2.length, hl]
            refine ⟨_, _, m1, m2, f1, f2, z1, z2, fun g1 g2 => ?_⟩
            obtain ⟨x0, y0, b0, hx0, hy0, hb0, yes, no⟩ := eqUs_at hl (by omega) hrem
            obtain ⟨vx, hvx, ux⟩ := q1.get hx0
            obtain ⟨vy, hvy, uy⟩ := q2.get hy0
            obtain ⟨jx, hjx, rjx⟩ := rw1.get hvx
            obtain ⟨jy, hjy, rjy⟩ := rw2.get hvy
            rw [get_list g1] at hjx
            rw [get_list g2] at hjy
            rw [Option.some.inj hjx, Option.some.inj hjy]
            refine wpAny_mono (ih A'.in1 s' H' w' c x0 y0 vx vy jx jy b0 (Bel.in1 (b.mono (by omega))) I' rjx rjy h' ux uy hb0) (fun z s2 hz => ?_) fun _ _ z => z
            obtain ⟨rfl, w2, H2, e2', I2, h2⟩ := hz
            have hB : (decide (((xs[i]?).bind fun x => (ys[i]?).bind fun y => eqU C F c n x y) = some true)) = z := by
              rw [hx0, hy0]
              show decide (eqU C F c n x0 y0 = some true) = z
              rw [hb0]
              cases z <;> simp
            exact ⟨hB.symm, fun hz => ⟨⟨w2, H2, e'.trans e2', I2, h2⟩, yes (hB.symm.trans hz), by omega⟩, fun hz => ⟨⟨w2, H2, e'.trans e2', I2, h2⟩, no (hB.symm.trans hz)⟩⟩
          · obtain ⟨⟨w', H', e', I', h'⟩, _⟩ := hj
            obtain ⟨b1, vs', eb1, hb1, q1⟩ := lvl_ok h' (rp.up e') l1
            obtain ⟨b2, ws', eb2, hb2, q2⟩ := lvl_ok h' (rq.up e') l2
            cases eb1; cases eb2
            obtain ⟨_, js, m1, rw1, f1⟩ := (show ObjOk X.prog X.w H' s'.heap a (.lst vs') from I'.hok a _ hb1)
            obtain ⟨_, js2, m2, rw2, f2⟩ := (show ObjOk X.prog X.w H' s'.heap a2 (.lst ws') from I'.hok a2 _ hb2)
            exact ⟨_, _, m1, m2, f1, f2, by rw [List.size_toArray, ← rw1.length, q1.length], by rw [List.size_toArray, ← rw2.length, ← q2.length, hl]⟩
          · obtain ⟨af, hrem, _⟩ := hj
            rw [List.drop_length, hl, List.drop_length] at hrem
            cases hrem
            exact ⟨rfl, af⟩
          · obtain ⟨af, rfl⟩ := hj
            exact ⟨rfl, af⟩
        · rename_i hl
          cases h
          refine lrc_len b.room.units0 e1 e2 ?_ ⟨rfl, w, H, Mi.Ext.refl w, I, hh⟩
          rw [List.size_toArray, List.size_toArray, ← rv1.length, ← rv2.length, ← r1.length, ← r2.length]
          exact hl
      · have hsh : ∃ xs ys, p = .tup xs ∧ q = .tup ys := by
          cases p <;> cases q <;> first | exact ⟨_, _, rfl, rfl⟩ | (exact absurd h (by simp))
        obtain ⟨xs, ys, rfl, rfl⟩ := hsh
        · dsimp only at h
          split at h
          · rename_i hl
            obtain ⟨a, vs, rfl, ha, r1⟩ := rp
            obtain ⟨a2, ws, rfl, ha2, r2⟩ := rq
            cases (show u = Value.ref a from rx)
            cases (show v = Value.ref a2 from ry)
            obtain ⟨its, rv1, e1, z1⟩ := I.tuple (SqT.of (hh.fz _ _ ha))
            obtain ⟨its2, rv2, e2, z2⟩ := I.tuple (SqT.of (hh.fz _ _ ha2))
            have hsz : its.toArray.size = its2.toArray.size := by rw [List.size_toArray, List.size_toArray, ← rv1.length, ← rv2.length, ← r1.length, ← r2.length]; exact hl
            have hn : its.toArray.size = xs.length := by rw [List.size_toArray, ← rv1.length, r1.length]
            refine trc hsz b.room.units0 (fun i => decide (((xs[i]?).bind fun x => (ys[i]?).bind fun y => eqU C F c n x y) = some true)) (fun i s' => (∃ w' H', Mi.Ext w w' ∧ Inv X pins σ H' s' ∧ HRel g w' c H') ∧ eqUs (eqU C F c n) (xs.drop i) (ys.drop i) = some r ∧ i ≤ xs.length)
              (fun s' => After X g pins σ w c s' ∧ r = false) e1 e2 (fun i g1 g2 s' hj => ?_) (fun s' hj => ?_) (fun s' hj => ?_) ⟨⟨w, H, Mi.Ext.refl w, I, hh⟩, h, Nat.zero_le _⟩
            · obtain ⟨⟨w', H', e', I', h'⟩, hrem, hle⟩ := hj
              obtain ⟨x0, y0, b0, hx0, hy0, hb0, yes, no⟩ := eqUs_at hl (by omega) hrem
              obtain ⟨vx, hvx, ux⟩ := (r1.up e').get hx0
              obtain ⟨vy, hvy, uy⟩ := (r2.up e').get hy0
              obtain ⟨jx, hjx, rjx⟩ := rv1.get hvx
              obtain ⟨jy, hjy, rjy⟩ := rv2.get hvy
              rw [get_list g1] at hjx
              rw [get_list g2] at hjy
              rw [Option.some.inj hjx, Option.some.inj hjy]
              refine wpAny_mono (ih A'.in1 s' H' w' c x0 y0 vx vy jx jy b0 (Bel.in1 (b.mono (by omega))) I' rjx rjy h' ux uy hb0) (fun z s2 hz => ?_) fun _ _ z => z
              obtain ⟨rfl, w2, H2, e2', I2, h2⟩ := hz
              have hB : (decide (((xs[i]?).bind fun x => (ys[i]?).bind fun y => eqU C F c n x y) = some true)) = z := by
                rw [hx0, hy0]
                show decide (eqU C F c n x0 y0 = some true) = z
                rw [hb0]
                cases z <;> simp
              exact ⟨hB.symm, fun hz => ⟨⟨w2, H2, e'.trans e2', I2, h2⟩, yes (hB.symm.trans hz), by omega⟩, fun hz => ⟨⟨w2, H2, e'.trans e2', I2, h2⟩, no (hB.symm.trans hz)⟩⟩
            · obtain ⟨af, hrem, _⟩ := hj
              rw [hn, List.drop_length, hl, List.drop_length] at hrem
              cases hrem
              exact ⟨rfl, af⟩
            · obtain ⟨af, rfl⟩ := hj
              exact ⟨rfl, af⟩
          · cases h
theorem rel_ref {x : V} {a : Addr} (h : RelV x (.ref a)) : x = .ref a := by
  cases x with
  | ref b => cases (show Value.ref a = Value.ref b from h); rfl
  | non => cases (show Value.ref a = Value.none from h)
  | bl _ => cases (show Value.ref a = Value.bool _ from h)
  | int _ => obtain ⟨_, e⟩ := (show ∃ t, Value.ref a = Value.int _ t from h); cases e
  | str _ => obtain ⟨_, e⟩ := (show ∃ t, Value.ref a = Value.str _ t from h); cases e
  | flt _ => obtain ⟨_, e⟩ := (show ∃ t, Value.ref a = Value.float _ t from h); cases e
  | ty _ => cases (show Value.ref a = Value.type _ from h)
  | byt _ => obtain ⟨_, e⟩ := (show ∃ t, Value.ref a = Value.bytes _ t from h); cases e
theorem eq_step {n : Nat} (hrc : RcRun X g C k F pins σ (n + 1)) : EqRun X g C k F pins σ (n + 1) := by
  intro A' s H w c p q x y u v r b I rx ry hh rp rq h
  by_cases hne : toV p = none ∨ toV q = none
  · have hr := hrc A' s H w c p q x y u v r b I rx ry hh rp rq h hne
    have hd : (∃ a, u = .ref a) ∨ ((∃ i t, u = .int i t) ∧ ∃ a, v = .ref a) := by
      unfold eqU at h
      split at h
      · rename_i e1 e2
        rcases hne with z | z
        · rw [e1] at z; cases z
        · rw [e2] at z; cases z
      · split at h
        · rename_i o1 o2
          obtain ⟨a, dx, vs, rfl, hA, _, _⟩ := oview_ok hh rp o1
          exact .inl ⟨a, rx⟩
        · rename_i o1 o2
          obtain ⟨a, dx, vs, rfl, hA, _, _⟩ := oview_ok hh rp o1
          exact .inl ⟨a, rx⟩
        · rename_i o1 o2
          split at h
          · rename_i hC
            obtain ⟨a, dx, vs, rfl, hA, _, _⟩ := oview_ok hh rq o2
            cases p with
            | int i =>
              cases (show x = _ from rp)
              obtain ⟨t, e⟩ := (show ∃ t, u = Value.int i t from rx)
              exact .inr ⟨⟨i, t, e⟩, a, ry⟩
            | _ => cases hC.2
          · cases h
        · split at h
          · rename_i xs ys l1 l2
            obtain ⟨a, vs, rfl, ha, r1⟩ := lvl_ok hh rp l1
            exact .inl ⟨a, rx⟩
          · have hsh : ∃ xs ys, p = .tup xs ∧ q = .tup ys := by
              cases p <;> cases q <;> first | exact ⟨_, _, rfl, rfl⟩ | (exact absurd h (by simp))
            obtain ⟨xs, ys, rfl, rfl⟩ := hsh
            obtain ⟨a, vs, rfl, ha, r1⟩ := rp
            exact .inl ⟨a, rx⟩
    rcases hd with ⟨a, rfl⟩ | ⟨⟨i, t, rfl⟩, a, rfl⟩
    · refine eqB_ref (fun e => ⟨?_, w, H, Mi.Ext.refl w, I, hh⟩) hr
      subst e
      cases rel_ref rx
      cases rel_ref ry
      cases r with
      | true => rfl
      | false => exact (eqU_ne _ _ _ _ hh h rp rq).elim
    · exact eqB_int hr
  · unfold eqU at h
    split at h
    · rename_i a b' ea eb
      cases h
      obtain ⟨rfl, f1⟩ := toV_ok rp ea
      obtain ⟨rfl, f2⟩ := toV_ok rq eb
      exact eqAt_V (A := A') (s := s) rx ry f1 f2 X.prog X.w X.xe _ ⟨rfl, w, H, Mi.Ext.refl w, I, hh⟩
    · rename_i hno
      exfalso
      rw [not_or] at hne
      obtain ⟨a, ea⟩ := Option.ne_none_iff_exists'.mp hne.1
      obtain ⟨b', eb⟩ := Option.ne_none_iff_exists'.mp hne.2
      exact hno a b' ea eb
theorem eq_run (E : EqC X g C k F) : ∀ n, EqRun X g C k F pins σ n
  | 0 => fun A' s H w c p q x y u v r _ _ _ _ _ _ _ h => by cases h
  | n + 1 => eq_step (rc_step E (eq_run E n))
/-- == as an operator -/
noncomputable def fEqO (C : Nat) (F : List U → Cs → R U) (n : Nat) (u v : U) (c : Cs) : Option (U × Cs) := if toV u = none ∨ toV v = none then (eqU C F c n u v).map fun b => (.bl b, c) else none
def rEqO (X : Cx) (g : Gc) (C : Nat) (F : List U → Cs → R U) (n : Nat) : R2 := fun x y H Q => ∃ w c p q r, HRel g w c H ∧ UV g w p x ∧ UV g w q y ∧ eqU C F c n p q = some r ∧ (toV p = none ∨ toV q = none) ∧ Then g w (.bl r) c Q
theorem eqO_u {n : Nat} : OpU g (fEqO C F n) (rEqO X g C F n) := by
  intro w c H u v x y z c' Q hh ru rv e h
  unfold fEqO at e
  split at e
  · rename_i hne
    cases hr : eqU C F c n u v with
    | none => rw [hr] at e; cases e
    | some r =>
      rw [hr] at e
      cases e
      exact ⟨w, c, u, v, r, hh, ru, rv, hr, hne, h⟩
  · cases e
theorem op_eqO {n : Nat} (E : EqC X g C k F) (hr : Room (n + k) X.A) (hgd : X.A.guards = some []) : OpR X (compareOp .Eq) (rEqO X g C F n) := by
  intro pins s σ H x y v u Q I rx ry h
  obtain ⟨w, c, p, q, r, hh, rp, rq, he, hne, ht⟩ := h
  cases n with
  | zero => cases he
  | succ n =>
    refine wpAny_mono (rc_step E (eq_run E n) X.A s H w c p q x y v u r ⟨hr, rfl, hgd⟩ I rx ry hh rp rq he hne) (fun z s' hz => ?_) fun _ _ x => x
    obtain ⟨rfl, w', H', e', I', h'⟩ := hz
    exact ⟨.bl r, H', I', rfl, ht w' (.bl r) H' e' h' rfl⟩
end
end Mi
/-! MjG: C(k = e, ..) -/
namespace Mi
open PySem PySem.Spec PyProof.Rows L2
/-- a class with its __init__, called by the keywords ks alone; pm: which keyword each parameter is -/
structure OwnIK (P : Program) (w : World) (K : PySem.W.Frag) (mg : Str → Option Value) (base : Heap) (g : Gc) (k : Nat) (C : Nat) (ps ks : List Str) (pm : List Nat) (Fm : List U → Cs → R U) : Prop where
  ex : ∃ (f : Addr) (fd : FuncData), Mk K (g.cls C) f ∧ FnG P w K mg base k f fd ps (SpF g ps.length Fm) ∧ ∀ (s : Shared) (a : Value) (ws : List Value), K.In s.heap → (sel pm ws).length + 1 = ps.length → ws.length = ks.length → BindsTo s fd ⟨[a], ks.zip ws⟩ (ps.zip (a :: sel pm ws))
noncomputable def mMakeK (mode : Nat) (C : Nat) (Fi : List U → Cs → R U) (pm : List Nat) (ms : MA) : ME := fun τ c => (ms τ c).bind fun us c1 => mkI mode C Fi (sel pm us) c1
section
variable {X : Cx} {g : Gc} {Wx : WX} {k j : Nat} {ps ks : List Str} {pm : List Nat} {Fm : List U → Cs → R U} {x : Str} {p pos : Pos} {ms : MA} {C : Nat} {kws : List Keyword}
theorem de_makeK {mode : Nat} (O : OwnIK X.prog X.w X.K X.mg X.base g k C ps ks pm Fm) (hm : X.mg x = some (.ref (g.cls C))) (hr : Room j X.A) (hkj : k + 1 ≤ j) (hgd : X.A.guards = some []) (tk : Takes X Wx) (ha : DK X g Wx kws ms)
    (hn : ∀ us τ c c', ms τ c = .ok us c' → us.length = ks.length ∧ (sel pm us).length + 1 = ps.length) (hg : Gl X x := by rfl) (hdb : (x == ("__debug__" : Str)) = false := by decide)
    (hall : (backToKw pos (keywordEach kws X.env)).all (·.1.isSome) = true := by rfl) (hks : (backToKw pos (keywordEach kws X.env)).filterMap (·.1) = ks := by rfl)
    (hpl : ((backTo pos (starEach [] X.env)).any (·.1) || (backToKw pos (keywordEach kws X.env)).any (·.1.isNone)) = false := by rfl) : DE X g Wx (.Call (.Name x p) [] kws pos) (mMakeK mode C Fm pm ms) := by
  obtain ⟨fa, fd, M, F, hb⟩ := O.ex
  refine ⟨fun pins s σ H Q I ⟨w, τ, c, hs, hh, q⟩ => ?_⟩
  refine wpAny_Call_Name_kw (ld_glob I hg hm ?_ hdb)
  have key : rd g Wx (UVs g) ms σ H fun vs H1 => ∃ w1 c1 us, HRel g w1 c1 H1 ∧ UVs g w1 us vs ∧ us.length = ks.length ∧ (sel pm us).length + 1 = ps.length ∧ Post g w1 σ Wx (UV g) Q (mkI mode C Fm (sel pm us) c1) := by
    refine ⟨w, τ, c, hs, hh, ?_⟩
    have q' : Post g w σ Wx (UV g) Q ((ms τ c).bind fun us c1 => mkI mode C Fm (sel pm us) c1) := q
    revert q'
    cases hms : ms τ c with
    | ok us c1 => exact fun q' w1 vs H1 e1 h1 r1 => ⟨w1, c1, us, h1, r1, (hn us τ c c1 hms).1, (hn us τ c c1 hms).2, Post.up e1 q'⟩
    | exc e c1 => exact fun q' => q'
    | bad => exact fun q' => q'
  refine PySem.W.callWith_KW0 (h₀ := X.base) I.ok.mod.kin M.kp hall ?_ hpl
  refine thn (ha.run pos pins s σ H _ I key) fun ws s2 ⟨zs, H2, I2, rz, w1, c1, uu, h1, ru, l1, l2, q1⟩ => ⟨I2.kIn, ?_⟩
  rw [hks]
  have hws : ws.length = ks.length := by rw [← rz.length, ← ru.length]; exact l1
  exact run_mkG (bs := sel pm ws) M F (hr.mono hkj) hgd tk I2 (fun s' a kk hl => hb s' a ws kk hl hws) (Vals.sel rz pm) l2 h1 (ru.sel pm) q1
end
end Mi
/-! MjH: repr of a dict without entries -/
namespace Mi
open PySem PySem.Spec PyProof.Rows L2
section
variable {X : Cx} {g : Gc}
def rReprE : List V → Hp → VK → Prop := fun xs H Q => ∃ a, xs = [.ref a] ∧ H a = some (.dK []) ∧ Q (.str ("{}" : String)) H
theorem call_reprE (hgd : X.A.guards = some []) (hu : X.A.units + 64 < cLine) : CallR X (.builtin "repr") rReprE := by
  intro pins s σ H xs us Q I r h
  obtain ⟨a, rfl, ea, q⟩ := h
  obtain ⟨u, rfl, ru⟩ := vals1 r
  cases (show u = Value.ref a from ru)
  obtain ⟨_, hsm, vs, kv, D⟩ := dk_of I.hok ea
  obtain ⟨o, es, ep, h1, h2, h3, h4⟩ := D
  have hv : vs = [] := by
    cases kv; rfl
  subst hv
  have he : es.toList = [] := by
    have := h4.2.1
    generalize es.toList = l at this ⊢
    cases l with
    | nil => rfl
    | cons x l => cases this
  have rr : Reads s.heap (.ref a) (.dict []) (a :: [] ++ []) := .dict h1 h2.1 h3 (by rw [he]; exact .nil) (by rw [he]; exact .nil)
  exact repr_of_reads' rr rfl (fun _ m => by
    simp at m
    rw [m] at hsm
    simp at hsm) hgd (by show X.A.units + _ < cLine; simp [PyData.depth, PyData.depthKv]; omega) (fun b o e => e) (fun h' t tk keep => ⟨.str _, H, I.kept keep, ⟨t, rfl⟩, q⟩) (by decide +kernel)
def fReprE (us : List U) (c : Cs) : Option (U × Cs) := match us with
  | [.dK [] []] => some (.str ("{}" : String), c)
  | us => fRepr us c
theorem reprE_u : CallU g fReprE (fun xs H Q => rRepr g.K xs H Q ∨ rReprE xs H Q) := by
  intro w c H us vs z c' Q hh r e h
  unfold fReprE at e
  split at e
  · obtain ⟨v, rfl, rv⟩ := uvs1 r
    obtain ⟨a, xs, rfl, q, l, _⟩ := rv
    cases e
    exact .inr ⟨a, rfl, hh.fz _ _ q, Then.here h hh rfl⟩
  · exact .inl (repr_u w c H us vs z c' Q hh r e h)
end
end Mi
/-! MkA: errors kept as values: made, by place or by keywords; their fields; isinstance -/
namespace Mi
open PySem PySem.Spec PySem.HandSPX
section
variable {prog : Program} {w : World} {A : Around} {E : Value → Shared → Prop} {R : Result → Shared → Prop} {h : Heap} {g : Array GenState} {d : Drawn} {t : Nat} {os : OsState}
variable {nm q : Str} {C N : Addr} {bs bm bmB : List Value} {hdct : Bool} {sn : List Str} {sub : List Value} {ab : Bool} {col : Option Bool} {dd : Option Addr} {k0 k1 k2 k3 k5 : Option Value} {B newId initId : String}
theorem checkK {M : Model} (F : ExcBaseFacts B newId initId bmB) (hT : ∀ X : String, bm.contains (.type X) = bmB.contains (.type X)) {rest : List Value} {kw : List (Str × Value)} {Q : Unit → Shared → Prop}
    (hC : h.get? C = some (excClassObj nm q C N bs bm hdct sn sub ab col dd k0 k1 k2 k3 k5 newId)) (hq : Q () ⟨h, g, d, t, os⟩) : wpAny M A (checkBuiltinCall newId ⟨.ref C :: rest, kw⟩) Q E ⟨h, g, d, t, os⟩ := by
  have e : (Value.ref C :: bm).contains (.type B) = true := by
    rw [List.contains_cons, hT B, F.hasB]; cases (Value.type B == Value.ref C) <;> rfl
  have hstar := F.noStar
  simp only [checkBuiltinCall, F.newKind, F.newSplit, F.newRow]
  repeat' first
    | wp_step
    | exact hq
    | refine wpAny_loadPart_at hC ?_
    | (refine wpAny_isSubtype_exc hC ?_; rw [e])
    | refine wpAny_staticBase_exc hC ?_
    | refine wpAny_madeBy_exc hC ?_
    | simp only [bne_self_eq_false, Bool.false_eq_true, if_false]
theorem newK (F : ExcBaseFacts B newId initId bmB) (hT : ∀ X : String, bm.contains (.type X) = bmB.contains (.type X)) {rest : List Value} {kw : List (Str × Value)}
    (hC : h.get? C = some (excClassObj nm q C N bs bm hdct sn sub ab col dd k0 k1 k2 k3 k5 newId)) (hl : rest.length ≤ sizeLine)
    (hq : R (.ok (.ret (.ref (h.objs.size + 1)))) ⟨(h.push (W.kdv_tup rest)).push (excO C h.objs.size), g, d, t, os⟩) :
    codeAny (model prog w) A (.builtin newId ⟨.ref C :: rest, kw⟩) R ⟨h, g, d, t, os⟩ := by
  have e : ∀ X b, bmB.contains (.type X) = b → (Value.ref C :: bm).contains (.type X) = b := fun X b z => by
    rw [List.contains_cons, hT X, z]; cases b <;> rfl
  have e1 := e _ _ F.hasB
  have e2 := e _ _ F.noAttr
  have e3 := e _ _ F.noName
  have hends := F.ends
  refine codeAny_builtinAt F.entry ?_
  unfold Builtin.«BaseException.__new__»
  refine wpAt_bind ?_
  show wpAt _ _ _ (stack >>= _) _ _ _
  refine wpAt_bind (wpAt_stack fun p below => wpAt_of_wpAny ?_)
  wp_walk
  refine wpAt_of_wpAny ?_
  rw [F.owner]
  repeat (first | with_reducible refine wpAny_madeHere_exc F.canon hC ?_ | (with_reducible refine wpAny_isSubtype_exc hC ?_; first | rw [e1] | rw [e2] | rw [e3]) | with_reducible refine wpAny_loadPart_at hC ?_ | wp_step)
  show R _ _
  rw [Heap.size_push]
  exact hq
theorem typeK (F : ExcBaseFacts B newId initId bmB) (hT : ∀ X : String, bm.contains (.type X) = bmB.contains (.type X)) {rest : List Value} {kw : List (Str × Value)} {fI : Addr} {Q : Fin → Shared → Prop}
    (hC : h.get? C = some (excClassObj nm q C N bs bm hdct sn sub ab col dd k0 k1 k2 k3 k5 newId))
    (hi : W.Looks (model prog w) h (typeLookup (.ref C) "__init__") (some (.ref fI))) (hb : ∀ self, W.Looks (model prog w) h (bindSpecial (.ref fI) self) (.ref fI, [self])) (hl : rest.length ≤ sizeLine)
    (hq : codeAny (model prog w) A (.call (.ref fI) ⟨.ref (h.objs.size + 1) :: rest, kw⟩)
      (fun r s' => match r with | .ok (.ret v) => v = .none ∧ Q (.done (.ret (.ref (h.objs.size + 1)))) s' | .ok _ => False | .error e => E e s')
      ⟨(h.push (W.kdv_tup rest)).push (excO C h.objs.size), g, d, t, os⟩) :
    wpAny (model prog w) A (Builtin.«type.__call__» ⟨.ref C :: rest, kw⟩) Q E ⟨h, g, d, t, os⟩ := by
  have up : ∀ b o, h.get? b = some o → ((h.push (W.kdv_tup rest)).push (excO C h.objs.size)).get? b = some o := fun b o z => Heap.get?_push_of_some _ (Heap.get?_push_of_some _ z)
  have hN : ((h.push (W.kdv_tup rest)).push (excO C h.objs.size)).get? (h.objs.size + 1) = some (excO C h.objs.size) := by heap_get
  have hi2 := hi.keeps up
  have hb2 := (hb (.ref (h.objs.size + 1))).keeps up
  have hself : (Value.ref C :: bm).contains (.ref C) = true := by simp
  repeat (first | with_reducible refine wpAny_loadPart_at hC ?_ | with_reducible refine wpAny_madeBy_exc hC ?_ | wp_step)
  refine codeAny_call_builtin_code (Code.quiet_builtin _ F.quiet) (checkK F hT hC (newK F hT hC hl ?_))
  show wpAny _ _ _ _ _ _
  unfold isInstance
  repeat (first | with_reducible refine wpAny_loadPart_at hN ?_ | (with_reducible refine wpAny_isSubtype_exc (up _ _ hC) ?_; rw [hself]) | wp_step)
  show wpAny _ _ (typeLookup (.ref C) _) _ _ _
  refine hi2.at (wpAny_holding (wpAny_bind (hb2.at (wpAny_bind (wpAny_call (codeAny_mono hq fun r s' z => ?_))))))
  rcases r with e | (v | _ | _ | _) <;> first | exact z | exact z.elim | skip
  obtain ⟨rfl, z⟩ := z
  first
    | exact wpAny_pure (wpAny_pure z)
    | (wp_walk; exact z)
theorem callK (F : ExcBaseFacts B newId initId bmB) (hT : ∀ X : String, bm.contains (.type X) = bmB.contains (.type X)) {rest : List Value} {kw : List (Str × Value)} {fI : Addr}
    (hC : h.get? C = some (excClassObj nm q C N bs bm hdct sn sub ab col dd k0 k1 k2 k3 k5 newId))
    (hi : W.Looks (model prog w) h (typeLookup (.ref C) "__init__") (some (.ref fI))) (hb : ∀ self, W.Looks (model prog w) h (bindSpecial (.ref fI) self) (.ref fI, [self])) (hl : rest.length ≤ sizeLine)
    (hq : codeAny (model prog w) (A.under (.builtin "type.__call__" ⟨.ref C :: rest, kw⟩)) (.call (.ref fI) ⟨.ref (h.objs.size + 1) :: rest, kw⟩) (W.InitBack (h.objs.size + 1) R)
      ⟨(h.push (W.kdv_tup rest)).push (excO C h.objs.size), g, d, t, os⟩) :
    codeAny (model prog w) A (.call (.ref C) ⟨rest, kw⟩) R ⟨h, g, d, t, os⟩ := by
  have f1 := tc_lookup
  have f2 := tc_bind (.ref C)
  have ht : (⟨h, g, d, t, os⟩ : Shared).TypeIs (.ref C) "type" := ⟨_, hC, rfl⟩
  refine codeAny_of_tree ?_
  show wpAny _ _ (callAny (.ref C) _) _ _ _
  repeat (any_goals (first | assumption | with_reducible refine wpAny_loadPart_at hC ?_ | wp_step))
  refine ⟨rfl, codeAny_call_builtin_at (Code.quiet_builtin _ (by decide +kernel)) entry_typeCall (wpAny_check_type_call_sub hC (typeK F hT hC hi hb hl (codeAny_mono hq fun r s' z => ?_)))⟩
  rcases r with e | (v | _ | _ | _) <;> exact z
end
end Mi
namespace Mi
open PySem PySem.Spec PyProof.Rows L2
section
variable {X : Cx} {g : Gc} {Wx : WX} {j k i : Nat} {ns ks ps : List Str} {pm : List Nat} {x y f : Str} {p p2 q2 pos : Pos} {e : Expr} {es : List Expr} {ms : MA} {mo : ME} {kws : List Keyword} {C fI : Addr} {fd : FuncData} {sp : Sp}
theorem run_err {pins : List (Addr × Obj)} {σ : L2.St} {H : Hp} {s : Shared} {Q : VK} {us bs : List Value} {kw : List (Str × Value)} {vs : List V} (T : OexC X.K C) (iC : PySem.W.findIn X.K (.ref C) "__init__" = some (some (.ref fI))) (tI : PySem.W.typeIn X.K (.ref fI) = some (.type "function"))
    (F1 : FnOk X.prog X.w X.K X.mg X.base (L2.CX X.prog X.w) k fI fd ps sp) (hr : Room (k + 1) X.A) (I : Inv X pins σ H s)
    (hb : ∀ (s' : Shared) (a : Value), X.K.In s'.heap → BindsTo s' fd ⟨a :: us, kw⟩ (ps.zip (a :: bs))) (r : Vals vs bs) (hl : us.length ≤ 1000)
    (q : ∀ a, H a = none → sp (.ref a :: vs) (upd H a (exo a C none)) (fun v H2 => v = .non ∧ Q (.ref a) H2) (fun _ _ _ => False)) : wpAny (model X.prog X.w) X.A (call (.ref C) us kw) (EP X pins σ Q) X.xe s := by
  obtain ⟨nm, qn, N, bd, bm, sn, sub, ab, col, dd, k0, k1, k2, k3, k5, hC, hbm⟩ := T.cls
  obtain ⟨hp, gn, dr, tk, os⟩ := s
  have hz := sizeLine_eq
  have hge : hp.objs.size ≤ hp.objs.size + 1 := by omega
  have hn : H (hp.objs.size + 1) = none := I.hok.fresh hge
  have up : ∀ b o, hp.get? b = some o → ((hp.push (PySem.W.kdv_tup us)).push (PySem.HandSPX.excO C hp.objs.size)).get? b = some o := fun b o z => Heap.get?_push_of_some _ (Heap.get?_push_of_some _ z)
  have hnew : ((hp.push (PySem.W.kdv_tup us)).push (PySem.HandSPX.excO C hp.objs.size)).get? (hp.objs.size + 1) = some (PySem.HandSPX.excO C hp.objs.size) := by heap_get
  have I2 : Inv X pins σ (upd H (hp.objs.size + 1) (exo (hp.objs.size + 1) C none)) ⟨(hp.push (PySem.W.kdv_tup us)).push (PySem.HandSPX.excO C hp.objs.size), gn, dr, tk, os⟩ := I.laid (t' := tk) up hge (exo_ok hnew)
  refine wpAny_call (callK PySem.F.excBase_ValueError (fun Y => PySem.HandSPX.refsVE_contains Y bm hbm) (I.kIn _ _ hC) (PySem.W.looks_findIn I.kIn iC) (fun self => PySem.W.bind_fn I.kIn self tI) (by omega) (codeAny_mono (F1.run _ X.stack _ _ ⟨Value.ref (hp.objs.size + 1) :: us, kw⟩ (Value.ref (hp.objs.size + 1) :: bs) (V.ref (hp.objs.size + 1) :: vs) _ (fun _ _ _ => False) (hr.make C us kw) (I2.env0.make C us kw) (hb _ _ I2.kIn) (.cons rfl r) (q _ hn)) fun res s' hq => ?_))
  cases res with
  | error er => exact passL pins σ _ _ er s' I2 hq
  | ok fl =>
    cases fl with
    | ret u =>
      obtain ⟨v, H', I3, rv, ev, q3⟩ := I2.after hq
      subst ev
      exact ⟨rv, ⟨V.ref (hp.objs.size + 1), H', I3, rfl, q3⟩⟩
    | next => exact hq.elim
    | brk => exact hq.elim
    | cont => exact hq.elim
/-- the kept error, new in the world -/
theorem err_new {w : Wd} {c : Cs} {H : Hp} {ci : Nat} {a dx : Addr} {xs : List U} {vs : List V} (hh : HRel g w c H) (ha : H a = none) (hd : H dx = none) (hne : dx ≠ a) (hl : ns.length = vs.length) (r : UVs g w xs vs) :
    ∃ w', Ext w w' ∧ HRel g w' c (upd (upd H dx (exd dx (ns.zip vs))) a (exo a (g.cls ci) (some dx))) ∧ UV g w' (.err ci ns xs) (.ref a) := by
  obtain ⟨h1, e1⟩ := hh.newF (o := exd dx (ns.zip vs)) hd
  obtain ⟨h2, e2⟩ := h1.newF (p := a) (o := exo a (g.cls ci) (some dx)) (by rw [upd_ne (Ne.symm hne)]; exact ha)
  refine ⟨_, e1.trans e2, h2, a, some dx, vs, rfl, ⟨upd_same, fun d e => ?_, fun e => by cases e⟩, hl, (r.up e1).up e2⟩
  cases e
  show upd (upd w.fz dx _) a _ dx = _
  rw [upd_ne hne, upd_same]
theorem sp_err {w : Wd} {c : Cs} {H : Hp} {σ : L2.St} {Q : VK} {us : List U} {vs : List V} (hsp : (∃ F, ns = [F] ∧ sp = spE1 (g.cls i) F) ∨ ∃ F G, ns = [G, F] ∧ sp = spE2 (g.cls i) F G) (hh : HRel g w c H) (r : UVs g w us vs) (hl : us.length = ns.length)
    (q : Post g w σ Wx (UV g) Q (.ok (U.err i ns us.reverse) c)) {a : Addr} (ha : H a = none) : sp (.ref a :: vs) (upd H a (exo a (g.cls i) none)) (fun v H2 => v = .non ∧ Q (.ref a) H2) (fun _ _ _ => False) := by
  have hlv := r.length
  have fin : ∀ (dx : Addr) (vs' : List V), upd H a (exo a (g.cls i) none) dx = none → dx ≠ a → ns.length = vs'.length → UVs g w us.reverse vs' → Q (.ref a) (upd (upd (upd H a (exo a (g.cls i) none)) dx (exd dx (ns.zip vs'))) a (exo a (g.cls i) (some dx))) := fun dx vs' hdx hne hl' r' => by
    rw [upd_ne hne] at hdx
    obtain ⟨w', e', h', u'⟩ := err_new (ci := i) hh ha hdx hne hl' r'
    have eq : upd (upd (upd H a (exo a (g.cls i) none)) dx (exd dx (ns.zip vs'))) a (exo a (g.cls i) (some dx)) = upd (upd H dx (exd dx (ns.zip vs'))) a (exo a (g.cls i) (some dx)) := by
      funext b
      by_cases hb : b = a
      · subst hb; rw [upd_same, upd_same]
      · rw [upd_ne hb, upd_ne hb]
        by_cases hb2 : b = dx
        · subst hb2; rw [upd_same, upd_same]
        · rw [upd_ne hb2, upd_ne hb2, upd_ne hb]
    rw [eq]
    exact q w' _ _ e' h' u'
  rcases hsp with ⟨F, rfl, rfl⟩ | ⟨F, G, rfl, rfl⟩
  · match us, vs, hl, hlv, r with
    | [u], [v], _, _, r =>
      obtain ⟨v0, r0, ev, ru, _⟩ := r
      cases ev
      exact ⟨a, v, rfl, upd_same, fun dx hdx hne => ⟨rfl, fin dx [v] hdx hne rfl ⟨v, [], rfl, ru, rfl⟩⟩⟩
  · match us, vs, hl, hlv, r with
    | [u, u2], [v, v2], _, _, r =>
      obtain ⟨v0, r0, ev, ru, v1, r2, ev2, ru2, _⟩ := r
      cases ev; cases ev2
      exact ⟨a, v, v2, rfl, upd_same, fun dx hdx hne => ⟨rfl, fin dx [v2, v] hdx hne rfl ⟨v2, [v], rfl, ru2, v, [], rfl, ru, rfl⟩⟩⟩
def mErr (i : Nat) (ns : List Str) (ms : MA) : ME := fun τ c => (ms τ c).bind fun us c1 => .ok (.err i ns us.reverse) c1
theorem de_err (E : ErrV X.prog X.K X.mg x (g.cls i) ns) (hr : Room (j + 1) X.A) (ha : DA X g Wx (e :: es) ms) (hn : ∀ us τ c c', ms τ c = .ok us c' → us.length = ns.length) (hg : Gl X x := by rfl) (hdb : (x == ("__debug__" : Str)) = false := by decide)
    (he : starEach (e :: es) X.env = (false, eval e X.env) :: starEach es X.env := by rfl) (hpl : (backTo pos (starEach es X.env)).any (·.1) = false := by rfl) : DE X g Wx (.Call (.Name x p) (e :: es) [] pos) (mErr i ns ms) := by
  obtain ⟨f, fd, ps, sp, iC, tI, hb, F1, hsp⟩ := E.fn
  refine ⟨fun pins s σ H Q I ⟨w, τ, c, hs, hh, q⟩ => ?_⟩
  refine wpAny_Call_Name_kw (ld_glob I hg E.gC ?_ hdb)
  have key : rd g Wx (UVs g) ms σ H fun vs H1 => ∃ w1 c1 uu, HRel g w1 c1 H1 ∧ UVs g w1 uu vs ∧ uu.length = ns.length ∧ Post g w1 σ Wx (UV g) Q (.ok (U.err i ns uu.reverse) c1) :=
    MA_len hn hs hh q fun us c1 w1 vs H1 hl e1 h1 r1 s1 q1 => ⟨w1, c1, us, h1, r1, hl, q1⟩
  refine PySem.W.callWith_K (h₀ := X.base) I.ok.mod.kin E.T.kC (thn (ha.run pos pins s σ H _ I key) fun us s1 ⟨vs, H1, I1, r, w1, c1, uu, h1, ru, hl, q1⟩ => ⟨I1.kIn, ?_⟩) he hpl
  have hns : ns.length ≤ 2 := by rcases hsp with ⟨F, rfl, _⟩ | ⟨F, G, rfl, _⟩ <;> simp
  have hlu : us.length = ns.length := by rw [← r.length, ← ru.length]; exact hl
  have hpl2 : ps.length = us.length + 1 := by
    have := (F1 X.w X.base).len (.ref s1.heap.objs.size :: vs) (upd H1 s1.heap.objs.size (exo s1.heap.objs.size (g.cls i) none)) _ _ (sp_err (Q := Q) hsp h1 ru hl q1 (I1.hok.fresh (Nat.le_refl _)))
    rw [← this, List.length_cons, r.length]
  exact run_err (bs := us) E.T iC tI (F1 X.w X.base) (hr.mono (by omega)) I1 (fun s' a kin => by
    have := hb s' (a :: us) kin (by simp [hpl2])
    simpa using this) r (by simp; omega) fun a ha => sp_err hsp h1 ru hl q1 ha
end
end Mi
/-! MkB: repr of trees with dicts -/
namespace Mi
open PySem PySem.Spec PyProof.Rows L2
def keyD : Key → PyData
  | .inl i => .int i
  | .inr x => .str x
mutual
inductive Dq (K : PySem.W.Frag) (H : Hp) : V → PyData → Prop
  | non : Dq K H .non .none
  | bl (b : Bool) : Dq K H (.bl b) (.bool b)
  | int (i : Int) : Dq K H (.int i) (.int i)
  | str (x : Str) : Dq K H (.str x) (.str x)
  | lst {a : Addr} {xs : List V} {ds : List PyData} : SqL K H a xs → DqAll K H xs ds → Dq K H (.ref a) (.list ds)
  | tup {a : Addr} {xs : List V} {ds : List PyData} : SqT K H a xs → DqAll K H xs ds → Dq K H (.ref a) (.tuple ds)
  | dK {a : Addr} {ks : List Key} {xs : List V} {ds : List PyData} : H a = some (.dK (ks.zip xs)) → ks.length = xs.length → DqAll K H xs ds → Dq K H (.ref a) (.dict ((ks.map keyD).zip ds))
  | dT {a : Addr} {ks : List (List Key)} {xs : List V} {ds : List PyData} : H a = some (.dT (ks.zip xs)) → ks.length = xs.length → DqAll K H xs ds → Dq K H (.ref a) (.dict ((ks.map fun k => .tuple (k.map keyD)).zip ds))
inductive DqAll (K : PySem.W.Frag) (H : Hp) : List V → List PyData → Prop
  | nil : DqAll K H [] []
  | cons {v : V} {vs : List V} {d : PyData} {ds : List PyData} : Dq K H v d → DqAll K H vs ds → DqAll K H (v :: vs) (d :: ds)
end
theorem DqAll.length {K : PySem.W.Frag} {H : Hp} : ∀ {vs : List V} {ds : List PyData}, DqAll K H vs ds → vs.length = ds.length
  | [], _, .nil => rfl
  | _ :: _, _, .cons _ h => by rw [List.length_cons, List.length_cons, h.length]
section
variable {X : Cx} {pins : List (Addr × Obj)} {σ : L2.St} {H : Hp} {s : Shared}
theorem key_reads {h : Heap} {k : Key} {v : Value} (e : keyIs k v = true) : Reads h v (keyD k) [] := by
  rcases keyIs_shape e with ⟨i, t, rfl, rfl⟩ | ⟨x, t, rfl, rfl⟩
  · exact .int i t
  · exact .str x t
theorem keyV_reads {h : Heap} {k : Key} {v : Value} (r : RelV (kV k) v) : Reads h v (keyD k) [] := by
  cases k with
  | inl i => obtain ⟨t, rfl⟩ := r; exact .int i t
  | inr x => obtain ⟨t, rfl⟩ := r; exact .str x t
theorem keysV_reads {h : Heap} : ∀ {ks : List Key} {its : List Value}, Vals (ks.map kV) its → ReadsAll h its (ks.map keyD) []
  | [], _, .nil => .nil
  | k :: ks, _, .cons r t => .cons (as := []) (bs := []) (keyV_reads r) (keysV_reads t)
theorem pairs_keys {P : Program} {w : World} {h : Heap} : ∀ {es : List DictEntry} {kvs : List (Key × Value)}, Pairs (mixKind P w) es kvs → ReadsAll h (es.map (·.key)) (kvs.map fun p => keyD p.1) []
  | [], _, .nil => .nil
  | _ :: _, _, .cons e _ t => .cons (as := []) (bs := []) (key_reads e) (pairs_keys t)
theorem pairs_vals {P : Program} {w : World} : ∀ {es : List DictEntry} {kvs : List (Key × Value)}, Pairs (mixKind P w) es kvs → es.map (·.val) = kvs.map (·.2)
  | [], _, .nil => rfl
  | _ :: _, _, .cons _ e t => by rw [List.map_cons, List.map_cons, e, pairs_vals t]
theorem kv_vals {κ : Type} : ∀ {ks : List κ} {xs : List V} {vs : List (κ × Value)}, ks.length = xs.length → KV (ks.zip xs) vs → Vals xs (vs.map (·.2)) ∧ vs.map (·.1) = ks
  | [], [], _, _, .nil => ⟨.nil, rfl⟩
  | k :: ks, x :: xs, _, hl, .cons r t => by
    obtain ⟨h1, h2⟩ := kv_vals (ks := ks) (xs := xs) (by simpa using hl) t
    exact ⟨.cons r.2 h1, by rw [List.map_cons, h2]; exact congrArg (· :: ks) r.1.symm⟩
  | [], _ :: _, _, hl, _ => by simp at hl
  | _ :: _, [], _, hl, _ => by simp at hl
theorem zip_fst {α β : Type} {as : List α} {bs : List β} (h : as.length = bs.length) : (as.zip bs).map (·.1) = as := List.map_fst_zip (Nat.le_of_eq h)
theorem zip_snd {α β : Type} {as : List α} {bs : List β} (h : as.length = bs.length) : (as.zip bs).map (·.2) = bs := List.map_snd_zip (Nat.le_of_eq h.symm)
theorem tup_keys {P : Program} {w : World} {h : Heap} (ok : HOk P w H h) : ∀ {ks : List (List Key)} {vs : List V} {xs : List (List Key × Addr × Value)}, ks.length = vs.length →
    Paired (fun (p : List Key × V) (q : List Key × Addr × Value) => p.1 = q.1 ∧ H q.2.1 = some (.tup (p.1.map kV)) ∧ RelV p.2 q.2.2) (ks.zip vs) xs →
    ReadsAll h (xs.map fun x => Value.ref x.2.1) (ks.map fun k => .tuple (k.map keyD)) [] ∧ Vals vs (xs.map fun x => x.2.2)
  | [], [], _, _, .nil => ⟨.nil, .nil⟩
  | k :: ks, v :: vs, _ :: xs, hl, .cons r t => by
    obtain ⟨h1, h2⟩ := tup_keys ok (ks := ks) (vs := vs) (by simpa using hl) t
    obtain ⟨e1, e2, e3⟩ := r
    obtain ⟨_, its, rv, o, ho, hc, n, hd⟩ := (show ObjOk P w H h _ (.tup (k.map kV)) from ok _ _ e2)
    exact ⟨.cons (as := []) (bs := []) (.tuple ho hc hd (keysV_reads rv)) h1, .cons e3 h2⟩
  | [], _ :: _, _, hl, _ => by simp at hl
  | _ :: _, [], _, hl, _ => by simp at hl
/-- what is said of a value's text: read, its parts read at lesser depth, told -/
structure Tells (P : Program) (w : World) (h : Heap) (u : Value) (d : PyData) : Prop where
  rd : ∃ as, Reads h u d as
  kk : ∃ bs, ReadAtMost h d.depth bs ∧ ReprK P w bs h d.depth u d.shown
  top : ∀ a, u = .ref a → ∀ (A : Around) (E : Value → Shared → Prop) (s : Shared) (Q : Value → Shared → Prop), A.guards = some [] → A.units + (d.depth + 1) < cLine → (∀ b o, h.get? b = some o → s.heap.get? b = some o) →
    (∀ h' t tk, (∀ b o, s.heap.get? b = some o → h'.get? b = some o) → Q (.str d.shown t) { s with heap := h', toks := tk }) → wpAny (model P w) A (call (.builtin "repr") [u]) Q E s
structure TellsAll (P : Program) (w : World) (h : Heap) (us : List Value) (ds : List PyData) : Prop where
  rd : ∃ as, ReadsAll h us ds as
  kk : ∃ bs, ReadAtMost h (PyData.depthAll ds) bs ∧ ReprAllK P w bs h (PyData.depthAll ds) us (PyData.shownAll ds)
theorem tells_flat {P : Program} {w : World} {h : Heap} {u : Value} {d : PyData} {as : List Addr} (r : Reads h u d as) (hd : d.hasDict = false) (hs : d.showable = true) (hz : d.shown.length ≤ sizeLine) (hu : ∀ a, u ≠ .ref a) : Tells P w h u d :=
  ⟨⟨_, r⟩, ReprK.of_reads r hs (fun z => by rw [hd] at z; cases z) hz, fun a e => absurd e (hu a)⟩
theorem keys_noDict : ∀ ks : List Key, PyData.hasDictAll (ks.map keyD) = false
  | [] => rfl
  | k :: ks => by
    simp only [List.map_cons, PyData.hasDictAll, keys_noDict ks]
    cases k <;> rfl
theorem tkeys_noDict : ∀ ks : List (List Key), PyData.hasDictAll (ks.map fun k => PyData.tuple (k.map keyD)) = false
  | [] => rfl
  | k :: ks => by simp only [List.map_cons, PyData.hasDictAll, PyData.hasDict, keys_noDict k, tkeys_noDict ks, Bool.or_false]
theorem tells_dict {P : Program} {w : World} {h : Heap} {a : Addr} {o : Obj} {es : Array DictEntry} {n : Nat} {kds ds : List PyData} (h1 : h.get? a = some o) (h2 : o.cls = .type "dict") (h3 : o.data = .dict es n) (hl : kds.length = ds.length) (hsm : (a == sysModules) = false)
    {ak : List Addr} (rk : ReadsAll h (es.toList.map (·.key)) kds ak) (nd : PyData.hasDictAll kds = false) (tv : TellsAll P w h (es.toList.map (·.val)) ds) (hs : PyData.showableAll kds = true) (hz : (PyData.dict (kds.zip ds)).shown.length ≤ sizeLine) : Tells P w h (.ref a) (.dict (kds.zip ds)) := by
  obtain ⟨av, rv⟩ := tv.rd
  obtain ⟨b2, hb2, k2⟩ := tv.kk
  have e1 := zip_fst hl
  have e2 := zip_snd hl
  have hz2 : (dictText (PyData.shownKv (kds.zip ds))).length ≤ sizeLine := hz
  obtain ⟨b1, hb1, k1⟩ := ReprAllK.of_readsAll (prog := P) (w := w) rk hs (fun z => by rw [nd] at z; cases z) (fun t ht => by
    rw [← e1] at ht
    obtain ⟨p, hp, hl⟩ := PyData.shownKv_key_le _ t ht
    exact Nat.le_trans hl (Nat.le_trans (dictText_mem_le hp) hz2))
  have r : Reads h (.ref a) (.dict (kds.zip ds)) _ := .dict h1 h2 h3 (by rw [e1]; exact rk) (by rw [e2]; exact rv)
  have d1 := PyData.depthAll_keys_le (kds.zip ds)
  have d2 := PyData.depthAll_vals_le (kds.zip ds)
  rw [e1] at d1
  rw [e2] at d2
  have hb := (hb1.mono d1).append (hb2.mono d2)
  have hna := not_mem_of_deeper r (Nat.lt_succ_self _) hb
  have en : ReprEntriesK P w (b1 ++ b2) h (PyData.depthKv (kds.zip ds)) es.toList (PyData.shownKv (kds.zip ds)) := by
    rw [PyData.shownKv_eq, e1, e2]
    exact .of_two _ _ _ (k1.more_le (fun b z => List.mem_append_left _ z) d1) (k2.more_le (fun b z => List.mem_append_right _ z) d2)
  refine ⟨⟨_, r⟩, ⟨a :: (b1 ++ b2), .cons r (Nat.le_succ _) hb, ReprK.dict h1 h2 h3 hsm hna en⟩, fun a' ea A E s Q hg hu hk hQ => ?_⟩
  exact call_repr_slot (by omega) ⟨o, hk _ _ h1, h2⟩ F.slot_dict_repr (call_dict_reprK h1 h2 h3 hsm hna en hg (fun b _ => Clear.nil b) (by show A.units + 1 + (PyData.depthKv (kds.zip ds) + 1) < cLine; have : (PyData.dict (kds.zip ds)).depth = PyData.depthKv (kds.zip ds) + 1 := rfl; omega) hk (fun h' t tk z => ⟨_, _, rfl, hQ h' t tk z⟩) hz2)
theorem tells_list {P : Program} {w : World} {h : Heap} {a : Addr} {o : Obj} {its : List Value} {n : Nat} {ds : List PyData} (h1 : h.get? a = some o) (h2 : o.cls = .type "list") (h3 : o.data = .seq its.toArray n) (tv : TellsAll P w h its ds) (hz : (PyData.list ds).shown.length ≤ sizeLine) : Tells P w h (.ref a) (.list ds) := by
  obtain ⟨as, ra⟩ := tv.rd
  obtain ⟨bs, hb, k⟩ := tv.kk
  have hz2 : (listText (PyData.shownAll ds)).length ≤ sizeLine := hz
  have r : Reads h (.ref a) (.list ds) _ := .list h1 h2 h3 ra
  have hna := not_mem_of_deeper r (Nat.lt_succ_self _) hb
  have dd : (PyData.list ds).depth = PyData.depthAll ds + 1 := rfl
  cases its with
  | nil =>
    cases ra
    exact ⟨⟨_, r⟩, ⟨a :: bs, .cons r (Nat.le_succ _) hb, ReprK.listEmpty h1 h2 h3⟩, fun a' ea A E s Q hg hu hk hQ =>
      call_repr_slot (by omega) ⟨o, hk _ _ h1, h2⟩ F.slot_list_repr.toG (call_list_repr_empty ⟨o, hk _ _ h1, h2⟩ (hk _ _ h1) h3 ⟨_, _, rfl, hQ _ _ _ fun _ _ z => z⟩)⟩
  | cons x l =>
    have kl : (PyData.shownAll ds).length = (x :: l).toArray.size := by rw [k.length_eq]; rfl
    have ki : ∀ (i : Nat) (y : Value), (x :: l).toArray[i]? = some y → ∃ t, (PyData.shownAll ds)[i]? = some t ∧ ReprK P w bs h (PyData.depthAll ds) y t := fun i y z => k.item i y (by simpa using z)
    exact ⟨⟨_, r⟩, ⟨a :: bs, .cons r (Nat.le_succ _) hb, ReprK.list h1 h2 h3 hna kl ki⟩, fun a' ea A E s Q hg hu hk hQ =>
      call_repr_slot (by omega) ⟨o, hk _ _ h1, h2⟩ F.slot_list_repr.toG (call_list_reprK h1 h2 h3 hna kl ki hg (fun b _ => Clear.nil b) (by show A.units + 1 + (PyData.depthAll ds + 1) < cLine; omega) hk (fun h' t tk z => ⟨_, _, rfl, hQ h' t tk z⟩) hz2)⟩
theorem tells_tup {P : Program} {w : World} {h : Heap} {a : Addr} {o : Obj} {its : List Value} {n : Nat} {ds : List PyData} (h1 : h.get? a = some o) (h2 : o.cls = .type "tuple") (h3 : o.data = .seq its.toArray n) (tv : TellsAll P w h its ds) (hz : (PyData.tuple ds).shown.length ≤ sizeLine) : Tells P w h (.ref a) (.tuple ds) := by
  obtain ⟨as, ra⟩ := tv.rd
  obtain ⟨bs, hb, k⟩ := tv.kk
  have hz2 : (tupleText (PyData.shownAll ds)).length ≤ sizeLine := hz
  have r : Reads h (.ref a) (.tuple ds) _ := .tuple h1 h2 h3 ra
  have hna := not_mem_of_deeper r (Nat.lt_succ_self _) hb
  have dd : (PyData.tuple ds).depth = PyData.depthAll ds + 1 := rfl
  exact ⟨⟨_, r⟩, ⟨a :: bs, .cons r (Nat.le_succ _) hb, ReprK.tuple h1 h2 h3 hna k⟩, fun a' ea A E s Q hg hu hk hQ =>
    call_repr_slot (by omega) ⟨o, hk _ _ h1, h2⟩ F.slot_tuple_repr (call_tuple_reprK h1 h2 h3 hna k hg (fun b _ => Clear.nil b) (by show A.units + 1 + (PyData.depthAll ds + 1) < cLine; omega) hk (fun h' t tk z => ⟨_, _, rfl, hQ h' t tk z⟩) hz2)⟩
mutual
theorem Dq.tells (I : Inv X pins σ H s) : ∀ {v : V} {d : PyData} {u : Value}, Dq X.K H v d → RelV v u → d.showable = true → d.shown.length ≤ sizeLine → Tells X.prog X.w s.heap u d
  | _, _, _, .non, r, hs, hz => by cases r; exact tells_flat .none rfl hs hz (fun a z => by cases z)
  | _, _, _, .bl b, r, hs, hz => by cases r; exact tells_flat (.bool b) rfl hs hz (fun a z => by cases z)
  | _, _, _, .int i, r, hs, hz => by obtain ⟨t, rfl⟩ := r; exact tells_flat (.int i t) rfl hs hz (fun a z => by cases z)
  | _, _, _, .str x, r, hs, hz => by obtain ⟨t, rfl⟩ := r; exact tells_flat (.str x t) rfl hs hz (fun a z => by cases z)
  | _, _, _, .lst (ds := ds) hl ha, r, hs, hz => by
    cases r
    obtain ⟨its, rv, ⟨o, n, ho, hc, _, hd⟩, _⟩ := I.list hl
    have hz2 : (listText (PyData.shownAll ds)).length ≤ sizeLine := hz
    exact tells_list ho hc hd (DqAll.tells I ha rv hs fun t ht => Nat.le_trans (listText_mem_le ht) hz2) hz
  | _, _, _, .tup (ds := ds) hl ha, r, hs, hz => by
    cases r
    obtain ⟨its, rv, ⟨o, ho, hc, n, hd⟩, _⟩ := I.tuple hl
    have hz2 : (tupleText (PyData.shownAll ds)).length ≤ sizeLine := hz
    exact tells_tup ho hc hd (DqAll.tells I ha rv hs fun t ht => Nat.le_trans (tupleText_mem_le ht) hz2) hz
  | _, _, _, .dK (ks := ks) (ds := ds) e hl ha, r, hs, hz => by
    cases r
    obtain ⟨_, hsm, vs, kv, o, es, ep, h1, h2, h3, _, h5, _⟩ := dk_of I.hok e
    obtain ⟨rv, hk⟩ := kv_vals hl kv
    have hk2 : (vs.map fun p => keyD p.1) = ks.map keyD := by rw [← hk, List.map_map]; rfl
    have l2 : (ks.map keyD).length = ds.length := by rw [List.length_map, hl, ha.length]
    obtain ⟨s1, s2⟩ := PyData.showableKv_split _ (show PyData.showableKv ((ks.map keyD).zip ds) = true from hs)
    rw [zip_fst l2] at s1
    rw [zip_snd l2] at s2
    have hz2 : (dictText (PyData.shownKv ((ks.map keyD).zip ds))).length ≤ sizeLine := hz
    refine tells_dict h1 h2.1 h3 l2 hsm (hk2 ▸ pairs_keys h5) (keys_noDict ks) ?_ s1 hz
    rw [pairs_vals h5]
    refine DqAll.tells I ha rv s2 fun t ht => ?_
    rw [← zip_snd l2] at ht
    obtain ⟨p, hp, hq⟩ := PyData.shownKv_val_le _ t ht
    exact Nat.le_trans hq (Nat.le_trans (dictText_mem_le hp) hz2)
  | _, _, _, .dT (ks := ks) (ds := ds) e hl ha, r, hs, hz => by
    cases r
    obtain ⟨_, hsm, xs, pr, o, es, ep, h1, h2, h3, h4, _⟩ := L2.dt_of I.hok e
    obtain ⟨rk, rv⟩ := tup_keys I.hok hl pr
    have l2 : (ks.map fun k => PyData.tuple (k.map keyD)).length = ds.length := by rw [List.length_map, hl, ha.length]
    obtain ⟨s1, s2⟩ := PyData.showableKv_split _ (show PyData.showableKv ((ks.map fun k => PyData.tuple (k.map keyD)).zip ds) = true from hs)
    rw [zip_fst l2] at s1
    rw [zip_snd l2] at s2
    have hz2 : (dictText (PyData.shownKv ((ks.map fun k => PyData.tuple (k.map keyD)).zip ds))).length ≤ sizeLine := hz
    refine tells_dict h1 h2.1 h3 l2 hsm (ak := []) (by rw [h4, List.map_map]; exact rk) (tkeys_noDict ks) ?_ s1 hz
    rw [h4, List.map_map]
    refine DqAll.tells I ha rv s2 fun t ht => ?_
    rw [← zip_snd l2] at ht
    obtain ⟨p, hp, hq⟩ := PyData.shownKv_val_le _ t ht
    exact Nat.le_trans hq (Nat.le_trans (dictText_mem_le hp) hz2)
theorem DqAll.tells (I : Inv X pins σ H s) : ∀ {vs : List V} {ds : List PyData} {us : List Value}, DqAll X.K H vs ds → Vals vs us → PyData.showableAll ds = true → (∀ t ∈ PyData.shownAll ds, t.length ≤ sizeLine) → TellsAll X.prog X.w s.heap us ds
  | _, _, _, .nil, r, _, _ => by cases r; exact ⟨⟨_, .nil⟩, [], (fun _ z => nomatch z), .nil⟩
  | _, _, _, .cons (d := d) (ds := ds) h1 h2, r, hs, hz => by
    cases r with
    | cons r1 r2 =>
      have hs2 : d.showable = true ∧ PyData.showableAll ds = true := Bool.and_eq_true_iff.mp hs
      obtain ⟨⟨a1, q1⟩, ⟨b1, m1, k1⟩, _⟩ := Dq.tells I h1 r1 hs2.1 (hz _ List.mem_cons_self)
      obtain ⟨⟨a2, q2⟩, ⟨b2, m2, k2⟩⟩ := DqAll.tells I h2 r2 hs2.2 fun t ht => hz t (List.mem_cons_of_mem _ ht)
      have l1 : d.depth ≤ PyData.depthAll (d :: ds) := Nat.le_max_left _ _
      have l2 : PyData.depthAll ds ≤ PyData.depthAll (d :: ds) := Nat.le_max_right _ _
      exact ⟨⟨_, .cons q1 q2⟩, b1 ++ b2, (m1.mono l1).append (m2.mono l2), .cons ((k1.more fun b z => List.mem_append_left _ z).level_le l1) (k2.more_le (fun b z => List.mem_append_right _ z) l2)⟩
end
end
def rReprD (K : PySem.W.Frag) : List V → Hp → VK → Prop := fun xs H Q => ∃ x d, xs = [x] ∧ Dq K H x d ∧ d.showable = true ∧ d.depth ≤ 40 ∧ d.shown.length ≤ sizeLine ∧ Q (.str d.shown) H
theorem call_reprD {X : Cx} (hgd : X.A.guards = some []) (hu : X.A.units + 64 < cLine) : CallR X (.builtin "repr") (rReprD X.K) := by
  intro pins s σ H xs us Q I r h
  obtain ⟨x, d, rfl, hd, hs, hp, hz, q⟩ := h
  obtain ⟨u, rfl, ru⟩ := vals1 r
  have tl := Dq.tells I hd ru hs hz
  have big : ∀ a, u = .ref a → wpAny (model X.prog X.w) X.A (call (.builtin "repr") [u]) (EP X pins σ Q) X.xe s := fun a e => by
    subst e
    exact tl.top a rfl X.A X.xe s _ hgd (by omega) (fun b o e => e) fun h' t tk keep => ⟨.str _, H, I.kept keep, ⟨t, rfl⟩, q⟩
  cases hd with
  | non => cases (show u = _ from ru); exact PySem.P.repr_of_none ⟨.str _, H, I.tok _, ⟨_, rfl⟩, q⟩
  | bl b => cases (show u = _ from ru); exact PySem.P.repr_of_bool ⟨.str _, H, I.tok _, ⟨_, rfl⟩, q⟩
  | int i =>
    obtain ⟨t, rfl⟩ := ru
    exact PySem.P.repr_of_int (by simpa [PyData.showable] using hs) ⟨.str _, H, I.tok _, ⟨_, rfl⟩, q⟩
  | str y =>
    obtain ⟨t, rfl⟩ := ru
    exact PySem.P.repr_of_str ⟨.str _, H, I.tok _, ⟨_, rfl⟩, q⟩ (by simpa [PyData.shown] using hz)
  | lst h1 h2 => exact big _ ru
  | tup h1 h2 => exact big _ ru
  | dK h1 h2 h3 => exact big _ ru
  | dT h1 h2 h3 => exact big _ ru
/-! the tree's data, with dicts -/
def pdD (ks : List PyData) (ds : List PyData) : PyData := .dict (ks.zip ds)
def pdX : Nat → Cs → U → Option PyData
  | 0, _, _ => none
  | n + 1, c, u => match u with
    | .non => some .none
    | .bl b => some (.bool b)
    | .int i => some (.int i)
    | .str s => some (.str s)
    | .tup xs => (pdL (pdX n c) xs).map .tuple
    | .lst xs => (pdL (pdX n c) xs).map .list
    | .dK ks xs => (pdL (pdX n c) xs).map fun ds => .dict ((ks.map keyD).zip ds)
    | .dT ks xs => (pdL (pdX n c) xs).map fun ds => .dict ((ks.map fun k => .tuple (k.map keyD)).zip ds)
    | .cel m => match c[m]? with
      | some (.lst xs) => (pdL (pdX n c) xs).map .list
      | some (.dK ks xs) => (pdL (pdX n c) xs).map fun ds => .dict ((ks.map keyD).zip ds)
      | _ => none
    | _ => none
section
variable {g : Gc} {w : Wd} {c : Cs} {H : Hp}
theorem pdL_okq {f : U → Option PyData} (hf : ∀ u x d, UV g w u x → f u = some d → Dq g.K H x d) : ∀ {us : List U} {vs : List V} {ds : List PyData}, UVs g w us vs → pdL f us = some ds → DqAll g.K H vs ds
  | [], _, _, r, e => by cases (show _ = [] from r); cases e; exact .nil
  | u :: us, _, ds, ⟨v, r, e0, q, t⟩, e => by
    subst e0
    unfold pdL at e
    cases e1 : f u with
    | none => rw [e1] at e; cases e
    | some d =>
      cases e2 : pdL f us with
      | none => rw [e1, e2] at e; cases e
      | some ds' => rw [e1, e2] at e; cases e; exact .cons (hf u v d q e1) (pdL_okq hf t e2)
theorem pdX_ok (hh : HRel g w c H) : ∀ (n : Nat) {u : U} {x : V} {d : PyData}, UV g w u x → pdX n c u = some d → Dq g.K H x d
  | 0, _, _, _, _, e => by cases e
  | n + 1, u, x, d, r, e => by
    have all : ∀ {xs : List U} {vs : List V} {ds : List PyData}, UVs g w xs vs → pdL (pdX n c) xs = some ds → DqAll g.K H vs ds := fun r e => pdL_okq (fun u x d r e => pdX_ok hh n r e) r e
    cases u with
    | non => cases (show x = _ from r); cases e; exact .non
    | bl b => cases (show x = _ from r); cases e; exact .bl b
    | int i => cases (show x = _ from r); cases e; exact .int i
    | str y => cases (show x = _ from r); cases e; exact .str y
    | tup xs =>
      obtain ⟨a, vs, rfl, q, rs⟩ := r
      obtain ⟨ds, h1, rfl⟩ := Option.map_eq_some_iff.mp (show (pdL (pdX n c) xs).map PyData.tuple = some d from e)
      exact .tup (.inl (.inl (hh.fz _ _ q))) (all rs h1)
    | lst xs =>
      obtain ⟨a, vs, rfl, q, rs⟩ := r
      obtain ⟨ds, h1, rfl⟩ := Option.map_eq_some_iff.mp (show (pdL (pdX n c) xs).map PyData.list = some d from e)
      exact .lst (.inl (.inl (hh.fz _ _ q))) (all rs h1)
    | dK ks xs =>
      obtain ⟨a, vs, rfl, q, l, rs⟩ := r
      obtain ⟨ds, h1, rfl⟩ := Option.map_eq_some_iff.mp (show (pdL (pdX n c) xs).map (fun ds => PyData.dict ((ks.map keyD).zip ds)) = some d from e)
      exact .dK (hh.fz _ _ q) l (all rs h1)
    | dT ks xs =>
      obtain ⟨a, vs, rfl, q, l, rs⟩ := r
      obtain ⟨ds, h1, rfl⟩ := Option.map_eq_some_iff.mp (show (pdL (pdX n c) xs).map (fun ds => PyData.dict ((ks.map fun k => .tuple (k.map keyD)).zip ds)) = some d from e)
      exact .dT (hh.fz _ _ q) l (all rs h1)
    | cel m =>
      obtain ⟨a, e1, rfl⟩ := r
      unfold pdX at e
      dsimp only at e
      split at e
      · rename_i xs hc
        obtain ⟨a', e', ⟨vs, h1, rs⟩, _⟩ := hh.cel m _ hc
        rw [e1] at e'; cases e'
        obtain ⟨ds, h2, rfl⟩ := Option.map_eq_some_iff.mp e
        exact .lst (.inl (.inl h1)) (all rs h2)
      · rename_i ks xs hc
        obtain ⟨a', e', ⟨vs, h1, l, rs⟩, _⟩ := hh.cel m _ hc
        rw [e1] at e'; cases e'
        obtain ⟨ds, h2, rfl⟩ := Option.map_eq_some_iff.mp e
        exact .dK h1 l (all rs h2)
      · cases e
    | _ => cases e
def fReprD (us : List U) (c : Cs) : Option (U × Cs) := match us with
  | [u] => (pdX 8 c u).bind fun d => if d.showable = true ∧ d.depth ≤ 40 ∧ d.shown.length ≤ 100000 then some (.str d.shown, c) else none
  | _ => none
theorem reprD_u : CallU g fReprD (rReprD g.K) := by
  intro w c H us vs z c' Q hh r e h
  unfold fReprD at e
  split at e
  · rename_i u
    obtain ⟨v, rfl, rv⟩ := uvs1 r
    obtain ⟨d, e1, e2⟩ := Option.bind_eq_some_iff.mp e
    split at e2
    · rename_i k
      cases e2
      exact ⟨v, d, rfl, pdX_ok hh 8 rv e1, k.1, k.2.1, by have := sizeLine_eq; omega, Then.here h hh rfl⟩
    · cases e2
  · cases e
end
end Mi
/-! MkC: errors kept as values: by keywords, without values, fields, isinstance -/
namespace Mi
open PySem PySem.Spec PyProof.Rows L2
/-- an error class whose __init__ is called by the keywords ks alone -/
structure ErrK (P : Program) (K : PySem.W.Frag) (mg : Str → Option Value) (x : Str) (C : Addr) (ns ks : List Str) (pm : List Nat) : Prop where
  gC : mg x = some (.ref C)
  T : OexC K C
  fn : ∃ (f : Addr) (fd : FuncData) (ps : List Str) (sp : Sp), PySem.W.findIn K (.ref C) "__init__" = some (some (.ref f)) ∧ PySem.W.typeIn K (.ref f) = some (.type "function") ∧ (∀ (s : Shared) (a : Value) (ws : List Value), ws.length = ks.length → BindsTo s fd ⟨[a], ks.zip ws⟩ (ps.zip (a :: sel pm ws))) ∧
    (∀ w base, FnOk P w K mg base (L2.CX P w) 0 f fd ps sp) ∧ ((∃ F, ns = [F] ∧ sp = spE1 C F) ∨ ∃ F G, ns = [G, F] ∧ sp = spE2 C F G)
theorem errK1_of {P : Program} {K : PySem.W.Frag} {mg : Str → Option Value} {C f : Addr} {fd : FuncData} {st : Stmt} {x qual n F : Str} (S : ErrS1 st qual n F) (I : ErrI P K mg C f fd st qual) (gC : mg x = some (.ref C)) (no : PySem.W.findIn K (.ref C) F = some none)
    (bk : ∀ (s : Shared) (a : Value) (ws : List Value), ws.length = 1 → BindsTo s fd ⟨[a], [n].zip ws⟩ ((["self", n] : List Str).zip (a :: sel [0] ws))) : ErrK P K mg x C [F] [n] [0] := by
  refine ⟨gC, I.T, f, fd, ["self", n], spE1 C F, I.iC, I.tI, bk, fun w base => ?_, .inl ⟨F, rfl, rfl⟩⟩
  obtain ⟨p0, p1, p2, p3, p4, p5, q1, q2, q3, q4, hb, he⟩ := S.body
  have hp : (fd.params.posonlyargs ++ fd.params.args).head?.map (·.arg) = some ("self" : Str) := by
    obtain ⟨oc, od, kV, doc, pm, an, cda, ct, cc, osl, rfl, _⟩ := I.ex
    exact S.par
  exact err_fn1 I hb no S.ns S.db hp S.k1 S.k2 S.k3 S.k4 S.k5 S.k6 S.k7 S.k8 (S.hi f) (he f)
theorem errK2_of {P : Program} {K : PySem.W.Frag} {mg : Str → Option Value} {C f : Addr} {fd : FuncData} {st : Stmt} {x qual n m F G : Str} (S : ErrS2 st qual n F m G) (I : ErrI P K mg C f fd st qual) (gC : mg x = some (.ref C)) (no : PySem.W.findIn K (.ref C) F = some none) (no2 : PySem.W.findIn K (.ref C) G = some none)
    (bk : ∀ (s : Shared) (a : Value) (ws : List Value), ws.length = 2 → BindsTo s fd ⟨[a], [m, n].zip ws⟩ ((["self", n, m] : List Str).zip (a :: sel [1, 0] ws))) : ErrK P K mg x C [G, F] [m, n] [1, 0] := by
  refine ⟨gC, I.T, f, fd, ["self", n, m], spE2 C F G, I.iC, I.tI, bk, fun w base => ?_, .inr ⟨F, G, rfl, rfl⟩⟩
  obtain ⟨p0, p1, p2, p3, p4, p5, p6, q1, q2, q3, q4, q5, q6, q7, q8, hb, he⟩ := S.body
  have hp : (fd.params.posonlyargs ++ fd.params.args).head?.map (·.arg) = some ("self" : Str) := by
    obtain ⟨oc, od, kV, doc, pm, an, cda, ct, cc, osl, rfl, _⟩ := I.ex
    exact S.par
  exact err_fn2 I hb no no2 S.ns S.ms S.nm S.db S.db2 hp S.k1 S.k2 S.k3 S.k4 S.k5 S.k6 S.k7 S.k9 S.k8 (S.hi f) (he f)
section
variable {X : Cx} {g : Gc} {Wx : WX} {j k i : Nat} {ns ks ps : List Str} {pm : List Nat} {x y f : Str} {p p2 q2 pos : Pos} {e : Expr} {es : List Expr} {ms : MA} {mo : ME} {kws : List Keyword} {C : Addr}
def mErrK (i : Nat) (ns : List Str) (pm : List Nat) (ms : MA) : ME := fun τ c => (ms τ c).bind fun us c1 => .ok (.err i ns (sel pm us).reverse) c1
theorem de_errK (E : ErrK X.prog X.K X.mg x (g.cls i) ns ks pm) (hr : Room (j + 1) X.A) (ha : DK X g Wx kws ms) (hn : ∀ us τ c c', ms τ c = .ok us c' → us.length = ks.length ∧ (sel pm us).length = ns.length) (hg : Gl X x := by rfl) (hdb : (x == ("__debug__" : Str)) = false := by decide)
    (hall : (backToKw pos (keywordEach kws X.env)).all (·.1.isSome) = true := by rfl) (hks : (backToKw pos (keywordEach kws X.env)).filterMap (·.1) = ks := by rfl)
    (hpl : ((backTo pos (starEach [] X.env)).any (·.1) || (backToKw pos (keywordEach kws X.env)).any (·.1.isNone)) = false := by rfl) : DE X g Wx (.Call (.Name x p) [] kws pos) (mErrK i ns pm ms) := by
  obtain ⟨f, fd, ps, sp, iC, tI, hb, F1, hsp⟩ := E.fn
  refine ⟨fun pins s σ H Q I ⟨w, τ, c, hs, hh, q⟩ => ?_⟩
  refine wpAny_Call_Name_kw (ld_glob I hg E.gC ?_ hdb)
  have key : rd g Wx (UVs g) ms σ H fun vs H1 => ∃ w1 c1 us, HRel g w1 c1 H1 ∧ UVs g w1 us vs ∧ us.length = ks.length ∧ (sel pm us).length = ns.length ∧ Post g w1 σ Wx (UV g) Q (.ok (U.err i ns (sel pm us).reverse) c1) := by
    refine ⟨w, τ, c, hs, hh, ?_⟩
    have q' : Post g w σ Wx (UV g) Q ((ms τ c).bind fun us c1 => .ok (U.err i ns (sel pm us).reverse) c1) := q
    revert q'
    cases hms : ms τ c with
    | ok us c1 => exact fun q' w1 vs H1 e1 h1 r1 => ⟨w1, c1, us, h1, r1, (hn us τ c c1 hms).1, (hn us τ c c1 hms).2, Post.up e1 q'⟩
    | exc e c1 => exact fun q' => q'
    | bad => exact fun q' => q'
  refine PySem.W.callWith_KW0 (h₀ := X.base) I.ok.mod.kin E.T.kC hall ?_ hpl
  refine thn (ha.run pos pins s σ H _ I key) fun ws s2 ⟨zs, H2, I2, rz, w1, c1, uu, h1, ru, l1, l2, q1⟩ => ⟨I2.kIn, ?_⟩
  rw [hks]
  have hws : ws.length = ks.length := by rw [← rz.length, ← ru.length]; exact l1
  exact run_err (bs := sel pm ws) E.T iC tI (F1 X.w X.base) (hr.mono (by omega)) I2 (fun s' a _ => hb s' a ws hws) (Vals.sel rz pm) (by simp) fun a ha => sp_err hsp h1 (ru.sel pm) l2 q1 ha
/-! ### fields -/
def mEf (cs : List Nat) (f : Str) (m : ME) : ME := fun τ c => (m τ c).bind fun u c1 => match u with
  | .err C ns xs => if C ∈ cs then (match (ixF f ns).bind fun i => xs[i]? with | some z => .ok z c1 | none => .bad) else .bad
  | _ => .bad
theorem de_ef {cs : List Nat} (hxc : ∀ C ∈ cs, XfC X.K (g.cls C) ∧ PySem.W.findIn X.K (.ref (g.cls C)) f = some none) (he : DE X g Wx e mo) (hb : attributeBase e f X.env (eval e X.env) = eval e X.env := by rfl) : DE X g Wx (.Attribute e f pos) (mEf cs f mo) := by
  refine ⟨fun pins s σ H Q I ⟨w, τ, c, hs, hh, q⟩ => ?_⟩
  have key : rd g Wx (UV g) mo σ H fun xv H1 => ∃ a C dx fs v, xv = .ref a ∧ (XfC X.K C ∧ PySem.W.findIn X.K (.ref C) f = some none) ∧ H1 a = some (exo a C (some dx)) ∧ H1 dx = some (exd dx fs) ∧ fs.lookup f = some v ∧ Q v H1 := by
    refine rd_bind q hs hh fun u c1 w1 xv H1 e1 h1 r1 s1 q1 => ?_
    cases u with
    | err C ns xs =>
      dsimp only at q1
      split at q1
      · rename_i hC
        obtain ⟨a, dx, vs, rfl, ⟨g1, g2, g3⟩, hl, rs⟩ := r1
        cases hx : (ixF f ns).bind fun i => xs[i]? with
        | none => rw [hx] at q1; exact q1.elim
        | some z =>
          rw [hx] at q1
          obtain ⟨i, hi, hz⟩ := Option.bind_eq_some_iff.mp hx
          obtain ⟨v, hv, rz⟩ := rs.get hz
          have hlk : (ns.zip vs).lookup f = some v := by rw [look_zip hl, hi]; exact hv
          cases dx with
          | none => rw [g3 rfl] at hlk; cases hlk
          | some d => exact ⟨a, _, d, _, v, rfl, hxc C hC, h1.fz _ _ g1, h1.fz _ _ (g2 d rfl), hlk, Post.here q1 h1 rz⟩
      · exact q1.elim
    | _ => exact q1.elim
  refine attr_of hb (thn (he.run pins s σ H _ I key) fun u s1 ⟨xv, H1, I1, rx, a, C, dx, fs, v, ex, ⟨T, hno⟩, ea, ed, l, q1⟩ => ?_)
  subst ex
  obtain rfl : u = Value.ref a := rx
  obtain ⟨t1, ha⟩ := exo_at I1.hok ea
  obtain ⟨mA, hns, hr⟩ := exd_at I1.hok ed
  obtain ⟨od, ho, hl⟩ := lookIn_ns hns
  obtain ⟨u, hu, ru⟩ := RelO.some_of (v := v) (o := mA f) (by rw [← l]; exact hr f)
  have J : PySem.W.InstAt s1.heap a _ C (some od) := ⟨ha, rfl, rfl, ho⟩
  exact HandSPX.exc_get I1.kIn J T.ga T.gg T.exC (PySem.W.findObj_own T.hdC hno rfl (by rw [hl, hu])) (handed_of ru) ⟨v, H1, I1.tok _, ru, q1⟩
end
end Mi
/-! MkD: errors kept as values: without values, isinstance -/
namespace Mi
open PySem PySem.Spec PyProof.Rows L2
section
variable {X : Cx} {g : Gc} {Wx : WX} {i : Nat} {x y : Str} {p p2 q2 pos : Pos} {e : Expr} {mo : ME}
def mErr0 (i : Nat) : ME := fun _ c => .ok (.err i [] []) c
theorem de_err0 (E : ErrC X.K X.mg x (g.cls i)) (hg : Gl X x := by rfl) (hdb : (x == ("__debug__" : Str)) = false := by decide) : DE X g Wx (.Call (.Name x p) [] [] pos) (mErr0 i) := by
  obtain ⟨bmB, B, newId, initId, F, q⟩ := E.q
  refine ⟨fun pins s σ H Q I ⟨w, τ, c, hs, hh, h⟩ => ?_⟩
  refine wpAny_Call_Name_kw (ld_glob I hg E.gC ?_ hdb)
  refine PySem.W.callWith_K0 I.kIn E.kC ?_
  show wpAny _ _ (call (.ref (g.cls i)) []) _ _ _
  obtain ⟨bm, N, nm, qn, bs, hdct, sn, sub, ab, col, dd, k0, k1, k2, k3, k5, mN, hC, hN, hni, Tl⟩ := exc_obj I.kIn q
  refine wpAny_call_exc_subT F Tl hC hN hni (fun h' a hm => ?_) (Nat.zero_le _)
  have hn : H a = none := I.hok.gone hm.new
  obtain ⟨t, ht, _, _⟩ := hm.there
  obtain ⟨h1, e1⟩ := hh.newF (o := exo a (g.cls i) none) hn
  exact ⟨.ref a, upd H a (exo a (g.cls i) none), I.laidN hm.keeps hm.new hn (exo_ok ht), rfl, h _ _ _ e1 h1 ⟨a, none, [], rfl, ⟨upd_same, (fun d z => by cases z), fun _ => rfl⟩, rfl, rfl⟩⟩
/-! ### isinstance -/
def exB (K : PySem.W.Frag) (C : Addr) : Bool := decide (PySem.W.findIn K (.ref C) "__getattribute__" = some (some (.builtin "BaseException.__getattribute__"))) && (decide (PySem.W.findIn K (.ref C) "__getattr__" = some none) && (decide (PySem.W.subIn K (.ref C) (.type "BaseException") = some true) &&
  (PySem.W.hasDictIn K C && (decide (PySem.W.findIn K (.ref C) "__class__" = some (some (.builtin "object.__class__"))) && (decide (PySem.W.specialIn K (.builtin "object.__class__") "__get__" = some (some (.builtin "getset_descriptor.__get__"))) &&
  (decide (PySem.W.takesIn K (.builtin "object.__class__") = some true) && decide (PySem.W.mroIn K C (.type "object") = some true)))))))
theorem exB_ok {K : PySem.W.Frag} {C : Addr} (h : exB K C = true) : ExcC K C := by
  unfold exB at h
  simp only [Bool.and_eq_true, decide_eq_true_eq] at h
  obtain ⟨h1, h2, h3, h4, h5, h6, h7, h8⟩ := h
  exact ⟨h1, h2, h3, h4, h5, h6, h7, h8⟩
def exBs (K : PySem.W.Frag) (L : List Addr) : Bool := L.all (exB K)
theorem exBs_ok {K : PySem.W.Frag} {L : List Addr} (h : exBs K L = true) {C : Addr} (hC : C ∈ L) : ExcC K C := exB_ok (List.all_eq_true.mp h C hC)
def kitBs (K : PySem.W.Frag) (cv : Value) (L : List (Addr × Bool)) : Bool := L.all fun q => decide (PySem.W.kitOne K (.ref q.1) cv = some q.2)
theorem kitBs_ok {K : PySem.W.Frag} {cv : Value} {L : List (Addr × Bool)} (h : kitBs K cv L = true) {C : Addr} {b : Bool} (hC : (C, b) ∈ L) : PySem.W.kitOne K (.ref C) cv = some b := of_decide_eq_true (List.all_eq_true.mp h _ hC)
def rIsE2 (K : PySem.W.Frag) : List V → Hp → VK → Prop := fun xs H Q => ∃ (a C : Addr) (dx : Option Addr) (fs : List (Str × V)) (c : V) (cv : Value) (b : Bool), xs = [.ref a, c] ∧ ErQ H a C dx fs ∧ ExcC K C ∧ (∀ u, RelV c u → u = cv) ∧ PySem.W.kitOne K (.ref C) cv = some b ∧ Q (.bl b) H
theorem call_isE2 : CallR X (.builtin "isinstance") (rIsE2 X.K) := by
  intro pins s σ H xs us Q I r h
  obtain ⟨a, C, dx, fs, c, cv, b, rfl, ⟨g1, g2, _⟩, T, hcv, e, q⟩ := h
  cases r with
  | cons rx rr =>
    cases rr with
    | cons rt rr =>
      cases rr
      cases rx
      have ec := hcv _ rt
      subst ec
      obtain ⟨t1, ha⟩ := exo_at I.hok g1
      obtain ⟨od, J⟩ : ∃ od, PySem.W.InstAt s.heap a ({ cls := .ref C, dict := dx, data := .fields #[.ref t1, .none, .none, .none, .bool false, .none] } : Obj) C od := by
        cases dx with
        | none => exact ⟨none, ha, rfl, rfl, trivial⟩
        | some d =>
          obtain ⟨mA, hns, _⟩ := exd_at I.hok (g2 d rfl)
          obtain ⟨od, ho, _⟩ := lookIn_ns hns
          exact ⟨some od, ha, rfl, rfl, ho⟩
      have hcl : (PySem.W.clsIn X.K C).isSome = true := by
        obtain ⟨cd, hc, _⟩ := PySem.W.any_some T.hd
        rw [hc]; rfl
      exact PySem.W.kia_one (PySem.W.kitx_exc hcl T.hg T.hk T.hs T.ha T.hn T.ht T.hm) I.kIn J e (fun z => nomatch z) fun tk => ⟨.bl b, H, I.kept (t' := tk) fun _ _ z => z, rfl, q⟩
def mIsE (ti : List (Nat × Bool)) (m : ME) : ME := fun τ c => (m τ c).bind fun u c1 => match u with
  | .err C _ _ => (match ti.lookup C with | some b => .ok (.bl b) c1 | none => .bad)
  | _ => .bad
theorem isE_run {ti : List (Nat × Bool)} {cv : Value} {cV : V} (hi : ∀ q ∈ ti, ExcC X.K (g.cls q.1) ∧ PySem.W.kitOne X.K (.ref (g.cls q.1)) cv = some q.2) (hcv : ∀ u, RelV cV u → u = cv) {w : Wd} {τ : T} {c : Cs} {σ : L2.St} {H : Hp} {Q : VK} (hs : SR g w τ σ) (hh : HRel g w c H) (q : Post g w σ Wx (UV g) Q (mIsE ti mo τ c)) :
    rd g Wx (UV g) mo σ H fun v H1 => rIsE2 X.K [v, cV] H1 Q := by
  refine rd_bind q hs hh fun u c1 w1 v H1 e1 h1 r1 s1 q1 => ?_
  cases u with
  | err C ns xs =>
    dsimp only at q1
    cases el : ti.lookup C with
    | none => rw [el] at q1; exact q1.elim
    | some b =>
      rw [el] at q1
      obtain ⟨ic, hk⟩ := hi _ (look_mem el)
      obtain ⟨a, dx, vs, rfl, gq, hl, rs⟩ := r1
      exact ⟨a, _, dx, _, cV, cv, b, rfl, gq.up h1.fz, ic, hcv, hk, Post.here q1 h1 rfl⟩
  | _ => exact q1.elim
theorem de_isE {ti : List (Nat × Bool)} {Ca : Addr} (hi : ∀ q ∈ ti, ExcC X.K (g.cls q.1) ∧ PySem.W.kitOne X.K (.ref (g.cls q.1)) (.ref Ca) = some q.2)
    (h : DE X g Wx e mo) (hm : X.mg "isinstance" = none) (hmy : X.mg y = some (.ref Ca)) (hg : Gl X "isinstance" := by rfl) (hgy : Gl X y := by rfl) (hdy : (y == ("__debug__" : Str)) = false := by decide)
    (hs1 : starEach [e, .Name y q2] X.env = (false, eval e X.env) :: starEach [.Name y q2] X.env := by rfl) (hs2 : starEach [.Name y q2] X.env = (false, eval (.Name y q2) X.env) :: starEach [] X.env := by rfl)
    (hpl : (backTo pos (starEach [.Name y q2] X.env)).any (·.1) = false := by rfl) : DE X g Wx (.Call (.Name "isinstance" p) [e, .Name y q2] [] pos) (mIsE ti mo) := by
  have hy : PE X (.Name y q2) (tC (.ref Ca)) := ⟨fun pins s σ H Q I q => ld_glob I hgy hmy ⟨.ref Ca, H, I, rfl, q⟩ hdy⟩
  exact pe_imp (pe_callB call_isE2 hg hm (by decide +kernel) (pa_cons h (pa_cons hy pa_nil hs2) hs1) (by decide) (by decide) hs1 hpl) fun σ H Q ⟨w, τ, c, hs, hh, q⟩ => isE_run (cV := .ref Ca) hi (fun u r => r) hs hh q
theorem de_isEB {ti : List (Nat × Bool)} {S : String} (hi : ∀ q ∈ ti, ExcC X.K (g.cls q.1) ∧ PySem.W.kitOne X.K (.ref (g.cls q.1)) (.type S) = some q.2)
    (h : DE X g Wx e mo) (hm : X.mg "isinstance" = none) (hmy : X.mg y = none) (hg : Gl X "isinstance" := by rfl) (hgy : Gl X y := by rfl)
    (hvy : bootBuiltins y = some (.type S) := by decide +kernel) (hny : y ≠ "__name__" := by decide) (hdy : (y == ("__debug__" : Str)) = false := by decide)
    (hs1 : starEach [e, .Name y q2] X.env = (false, eval e X.env) :: starEach [.Name y q2] X.env := by rfl) (hs2 : starEach [.Name y q2] X.env = (false, eval (.Name y q2) X.env) :: starEach [] X.env := by rfl)
    (hpl : (backTo pos (starEach [.Name y q2] X.env)).any (·.1) = false := by rfl) : DE X g Wx (.Call (.Name "isinstance" p) [e, .Name y q2] [] pos) (mIsE ti mo) :=
  pe_imp (pe_callB call_isE2 hg hm (by decide +kernel) (pa_cons h (pa_cons (pe_bltn (v := .ty S) hgy hmy hvy rfl hny hdy) pa_nil hs2) hs1) (by decide) (by decide) hs1 hpl) fun σ H Q ⟨w, τ, c, hs, hh, q⟩ => isE_run (cV := .ty S) hi (fun u r => r) hs hh q
end
end Mi
/-! MkE: d[k] = v; {(..): v} -/
namespace Mi
open PySem PySem.Spec PyProof.Rows L2
/-! ### keys that are tuples -/
def keyUs : List U → Option (List Key)
  | [] => some []
  | u :: us => (keyU u).bind fun k => (keyUs us).map (k :: ·)
def keyT : U → Option (List Key)
  | .tup us => keyUs us
  | _ => none
theorem keyUs_ok {g : Gc} {w : Wd} : ∀ {us : List U} {vs : List V} {ks : List Key}, UVs g w us vs → keyUs us = some ks → vs = ks.map kV
  | [], _, _, r, e => by cases (show _ = [] from r); cases e; rfl
  | u :: us, _, ks, ⟨v, r, h, a, t⟩, e => by
    subst h
    unfold keyUs at e
    obtain ⟨k, e1, e2⟩ := Option.bind_eq_some_iff.mp e
    obtain ⟨ks', e3, rfl⟩ := Option.map_eq_some_iff.mp e2
    rw [keyU_ok a e1, keyUs_ok t e3]; rfl
theorem keyT_ok {g : Gc} {w : Wd} {c : Cs} {H : Hp} {u : U} {x : V} {ks : List Key} (hh : HRel g w c H) (r : UV g w u x) (e : keyT u = some ks) : ∃ b, x = .ref b ∧ H b = some (.tup (ks.map kV)) := by
  cases u with
  | tup us =>
    obtain ⟨a, vs, rfl, q, rs⟩ := r
    have := keyUs_ok rs e
    subst this
    exact ⟨a, rfl, hh.fz _ _ q⟩
  | _ => cases e
/-! ### storing -/
def dputU {κ : Type} [DecidableEq κ] (ks : List κ) (xs : List U) (k : κ) (u : U) : List κ × List U := if k ∈ ks then (ks, (ks.zip xs).map fun p => if p.1 = k then u else p.2) else (ks ++ [k], xs ++ [u])
theorem dput_old {κ : Type} [DecidableEq κ] {g : Gc} {w : Wd} {k : κ} {u : U} {v : V} (r : UV g w u v) : ∀ {ks : List κ} {xs : List U} {vs : List V}, ks.length = vs.length → UVs g w xs vs →
    ∃ vs', (ks.zip vs).map (fun kv => if kv.1 = k then (kv.1, v) else kv) = ks.zip vs' ∧ ks.length = vs'.length ∧ UVs g w ((ks.zip xs).map fun p => if p.1 = k then u else p.2) vs'
  | [], [], _, hl, h => by
    cases (show _ = [] from h)
    exact ⟨[], rfl, rfl, rfl⟩
  | [], _ :: _, _, hl, ⟨_, _, e, _, _⟩ => by subst e; simp at hl
  | _ :: _, [], _, hl, h => by cases (show _ = [] from h); simp at hl
  | a :: ks, x :: xs, _, hl, ⟨y, ys, e, q, t⟩ => by
    subst e
    obtain ⟨vs', h1, h2, h3⟩ := dput_old (k := k) r (ks := ks) (by simpa using hl) t
    by_cases hk : a = k
    · refine ⟨v :: vs', ?_, by simp [h2], v, vs', rfl, ?_, h3⟩
      · simp only [List.zip_cons_cons, List.map_cons, hk, if_true, h1]
      · simp only [hk, if_true]; exact r
    · refine ⟨y :: vs', ?_, by simp [h2], y, vs', rfl, ?_, h3⟩
      · simp only [List.zip_cons_cons, List.map_cons, hk, if_false, h1]
      · simp only [hk, if_false]; exact q
theorem dput_ok {κ : Type} [DecidableEq κ] {g : Gc} {w : Wd} {k : κ} {u : U} {v : V} {ks : List κ} {xs : List U} {vs : List V} (hl : ks.length = vs.length) (rs : UVs g w xs vs) (r : UV g w u v) :
    ∃ vs', putK (ks.zip vs) k v = (dputU ks xs k u).1.zip vs' ∧ (dputU ks xs k u).1.length = vs'.length ∧ UVs g w (dputU ks xs k u).2 vs' := by
  have ha : ((ks.zip vs).any fun kv => decide (kv.1 = k)) = decide (k ∈ ks) := by
    rw [Bool.eq_iff_iff, List.any_eq_true, decide_eq_true_eq]
    constructor
    · rintro ⟨p, hp, h⟩
      have := List.of_mem_zip (show (p.1, p.2) ∈ _ from hp)
      rw [← of_decide_eq_true h]; exact this.1
    · intro h
      obtain ⟨i, hi, rfl⟩ := List.mem_iff_getElem.mp h
      exact ⟨(ks[i], vs[i]'(by omega)), List.mem_iff_getElem.mpr ⟨i, by simp; omega, by simp⟩, by simp⟩
  unfold putK dputU
  rw [ha]
  by_cases h : k ∈ ks
  · rw [if_pos (decide_eq_true h), if_pos h]
    obtain ⟨vs', h1, h2, h3⟩ := dput_old (k := k) r hl rs
    exact ⟨vs', by simpa using h1, h2, h3⟩
  · rw [if_neg (by simpa using h), if_neg h]
    refine ⟨vs ++ [v], by rw [List.zip_append hl]; rfl, by simp [hl], rs.app (.one r)⟩
def fDPut (o i v : U) (c : Cs) : Option Cs := match o with
  | .cel nn => match c[nn]? with
    | some (.dK ks xs) => if ks.length < 5000 then (keyU i).map fun k => c.set nn (.dK (dputU ks xs k v).1 (dputU ks xs k v).2) else none
    | some (.dT ks xs) => if ks.length < 5000 then (keyT i).map fun k => c.set nn (.dT (dputU ks xs k v).1 (dputU ks xs k v).2) else none
    | _ => none
  | _ => none
def msDPut (mo mi mv : ME) : MS := fun τ c => (mv τ c).bindS τ fun v c1 => (mo τ c1).bindS τ fun o c2 => (mi τ c2).bindS τ fun i c3 => match fDPut o i v c3 with
  | some c4 => .nx τ c4
  | none => .bad
section
variable {X : Cx} {g : Gc} {Wx : WX} {o e ei : Expr} {mo mi mv : ME} {pos pos' : Pos}
theorem ds_dput (hu : X.A.units + 1 < cLine) (hv : DE X g Wx e mv) (ho : DE X g Wx o mo) (hi : DE X g Wx ei mi) (hs : swapsWith e (some (.Subscript o ei pos')) pos.line X.env = pure false := by rfl) : DS X g Wx (.Assign [.Subscript o ei pos'] e pos) (msDPut mo mi mv) := by
  refine ps_imp (ps_dput hu ho hi hv hs) fun D σ H ⟨w, τ, c, hs, hh, q⟩ => ?_
  refine rd_bindS q hs hh fun v c1 w1 vv H1 e1 h1 r1 s1 q1 => rd_bindS q1 s1 h1 fun ou c2 w2 ov H2 e2 h2 r2 s2 q2 => rd_bindS q2 s2 h2 fun iu c3 w3 iv H3 e3 h3 r3 s3 q3 => ?_
  have hz := sizeLine_eq
  cases ep : fDPut ou iu v c3 with
  | none => rw [ep] at q3; exact q3.elim
  | some c4 =>
    rw [ep] at q3
    unfold fDPut at ep
    split at ep
    · rename_i nn
      obtain ⟨a0, q0, rfl⟩ := r2.up e3
      split at ep
      · rename_i ks xs hq
        split at ep
        · rename_i hlen
          obtain ⟨k, ek, rfl⟩ := Option.map_eq_some_iff.mp ep
          obtain ⟨a', e', ⟨vs, hv, hl, rs⟩, kf⟩ := h3.cel nn _ hq
          rw [e'] at q0; cases q0
          obtain ⟨vs', p1, p2, p3⟩ := dput_ok (k := k) hl rs ((r1.up e2).up e3)
          refine ⟨_, _, rfl, ?_, q3 w3 σ _ (Ext.refl w3) (h3.setC (o := .dK (putK (ks.zip vs) k vv)) hq rfl e' rfl ⟨vs', by rw [upd_same, p1], p2, p3⟩) s3⟩
          rw [keyU_ok r3 ek]
          exact .k hv (by rw [List.length_zip]; omega)
        · cases ep
      · rename_i ks xs hq
        split at ep
        · rename_i hlen
          obtain ⟨k, ek, rfl⟩ := Option.map_eq_some_iff.mp ep
          obtain ⟨a', e', ⟨vs, hv, hl, rs⟩, kf⟩ := h3.cel nn _ hq
          rw [e'] at q0; cases q0
          obtain ⟨vs', p1, p2, p3⟩ := dput_ok (k := k) hl rs ((r1.up e2).up e3)
          obtain ⟨b, rfl, hb⟩ := keyT_ok h3 r3 ek
          refine ⟨_, _, rfl, ?_, q3 w3 σ _ (Ext.refl w3) (h3.setC (o := .dT (putK (ks.zip vs) k vv)) hq rfl e' rfl ⟨vs', by rw [upd_same, p1], p2, p3⟩) s3⟩
          exact .t hv hb (by rw [List.length_zip]; omega)
        · cases ep
      · cases ep
    · cases ep
/-! ### {(..): v} -/
theorem pe_dispT {keys : List (Option Expr)} {values : List Expr} {trs : List (TE × TE)} (hu : X.A.units + 1 < cLine) (h : PPs X pos keys values trs) (hall : keys.all (·.isSome) = true) (hl : keys.length = values.length) (h0 : keys ≠ []) (h15 : keys.length ≤ 15) :
    PE X (.Dict keys values pos) (fun σ H Q => ∀ p, H p = none → tPairs trs σ (upd H p (.dT [])) fun ps H2 => H2 p = some (.dT []) ∧ ∃ b ks y, ps = [(V.ref b, y)] ∧ H2 b = some (.tup (ks.map kV)) ∧ Q (.ref p) (upd H2 p (.dT [(ks, y)]))) := by
  refine ⟨fun pins s σ H Q I q => ?_⟩
  have hz := sizeLine_eq
  have hn := I.hok.fresh (Nat.le_refl s.heap.objs.size)
  have I1 := I.laid (a := s.heap.objs.size) (o := .dT []) (h' := s.heap.push { cls := .type "dict", data := .dict #[] }) (t' := s.toks) (fun _ _ q => Heap.get?_push_of_some _ q) (Nat.le_refl _) (dt_empty s.heap I.big)
  have hlen := pairTrees_length keys values X.env pos hall hl
  rw [arm_eval_Dict, zip_pairTrees keys values X.env pos hall hl, dictDisplay_pairs (pairTrees keys values X.env pos) (fun z => h0 (List.length_eq_zero_iff.mp (by rw [← hlen, z]; rfl))) (by omega)]
  refine wpAny_bind (wpAny_standAt (wpAny_bind (wpAny_subDictH (knd := tupleKind (mixKind X.prog X.w)) (show X.A.units < cLine by omega) (by omega) (thn (h.run pins _ σ _ _ I1 (q _ hn)) fun ws s2 ⟨ps, H2, I3, rel, ed, b, ks, y, ep, eb, q2⟩ => ?_))))
  subst ep
  cases rel with
  | @cons _ a2 _ _ r t =>
    cases t
    obtain ⟨u, u2⟩ := a2
    obtain ⟨rx, ry⟩ := r
    obtain rfl : u = Value.ref b := rx
    obtain ⟨zz, hd, xs, rel, dd⟩ := L2.dt_of I3.hok ed
    cases rel
    refine ⟨[(ks, b, u2)], ⟨rfl, rfl, key_of I3.hok eb, trivial⟩, dd, fun h' tk dd' hs => wpAny_pure ?_⟩
    obtain ⟨ob, es, ep, hq, g2, g3, g4, _, g5⟩ := dd'
    refine ⟨.ref s.heap.objs.size, upd H2 s.heap.objs.size (.dT [(ks, y)]), d_write I3 (by rw [ed]; exact True.intro) hs ⟨ob, hq⟩ ?_, rfl, q2⟩
    refine ⟨by simp; omega, hd, [(ks, b, u2)], .cons ⟨rfl, ?_, ry⟩ .nil, ob, es, ep, hq, g2, g3, g4, g5⟩
    rw [upd_ne (ne_of eb ed (fun z => nomatch z))]
    exact eb
open Classical in
noncomputable def mDictT (mp : MP) : ME := fun τ c => (mp τ (c ++ [.dT [] []])).bind fun ps c2 => match ps, c2[c.length]? with
  | [(k, v)], some (.dT [] []) => (match keyT k with
    | some ks => if noCel v = true ∧ c2.take c.length = c then .ok (.dT [ks] [v]) c else .bad
    | none => .bad)
  | _, _ => .bad
theorem de_dictT {keys : List (Option Expr)} {values : List Expr} {mp : MP} (hu : X.A.units + 1 < cLine) (h : DPs X g Wx pos keys values mp) (hall : keys.all (·.isSome) = true := by rfl) (hl : keys.length = values.length := by rfl) (h0 : keys ≠ [] := by exact fun z => by cases z) (h15 : keys.length ≤ 15 := by decide) : DE X g Wx (.Dict keys values pos) (mDictT mp) := by
  obtain ⟨trs, h1, h2⟩ := h.ex
  refine pe_imp (pe_dispT hu h1 hall hl h0 h15) fun σ H Q ⟨w, τ, c, hs, hh, q⟩ => fun D hD => ?_
  obtain ⟨hc0, ec0⟩ := hh.newC (o := .dT []) (cl := .dT [] []) hD rfl fun w' e => ⟨[], upd_same, rfl, rfl⟩
  generalize hwD : (⟨fun j => if j = c.length then some D else w.ρ j, w.fz, w.ex⟩ : Wd) = wD at hc0 ec0
  have hρ : wD.ρ c.length = some D := by subst hwD; exact if_pos rfl
  refine h2 wD τ _ σ _ _ (hs.up ec0) hc0 ?_
  unfold mDictT at q
  revert q
  cases mp τ (c ++ [.dT [] []]) with
  | exc e c2 => exact fun q => Post.up ec0 q
  | bad => exact fun q => q
  | ok ps c2 =>
    intro q w2 vs H2 e2 hh2 r2
    simp only [bind_ok] at q
    split at q
    · rename_i k v hcell
      cases hk : keyT k with
      | none => rw [hk] at q; exact q.elim
      | some ks =>
        rw [hk] at q
        dsimp only at q
        split at q
        · rename_i nc
          obtain ⟨p0, r, rfl, rk, rv, rr⟩ := r2
          cases (show r = [] from rr)
          obtain ⟨x, y⟩ := p0
          obtain ⟨a, ea, ⟨vs0, hv0, hl0, _⟩, _⟩ := hh2.cel _ _ hcell
          rw [e2.ρ _ _ hρ] at ea; cases ea
          obtain ⟨b, hb1, hb⟩ := keyT_ok hh2 rk hk
          have hb1 : x = V.ref b := hb1
          subst hb1
          refine ⟨by rw [hv0]; rfl, b, ks, y, rfl, hb, ?_⟩
          have h3 := hh2.setC (o := .dT [(ks, y)]) (cl := .dT [ks] [v]) hcell rfl (e2.ρ _ _ hρ) rfl ⟨[y], upd_same, rfl, .one rv⟩
          have hlen : c.length < c2.length := (List.getElem?_eq_some_iff.mp hcell).1
          obtain ⟨h4, x4⟩ := h3.freeze (n := c.length) (a := D) (List.getElem?_set_self hlen) rfl (e2.ρ _ _ hρ) upd_same
          have ht : ((c2.set c.length (.dT [ks] [v])).set c.length Cell.dead).take c.length = c := by
            rw [List.take_set_of_le (Nat.le_refl _), List.take_set_of_le (Nat.le_refl _)]; exact nc.2
          obtain ⟨h5, x5⟩ := hh.cut ((ec0.trans e2).trans x4) h4 ht
          exact q _ (.ref D) _ x5 h5 (UV.cut (u := .dT [ks] [v]) (by simpa [noCel, noCels] using nc.1) ⟨D, [y], rfl, upd_same, rfl, .one (UV.up x4 rv)⟩)
        · exact q.elim
    · exact q.elim
end
end Mi
/-! MkF: a call without values -/
namespace Mi
open PySem PySem.Spec PyProof.Rows L2
section
variable {X : Cx} {g : Gc} {Wx : WX} {k j : Nat} {Fm : List U → Cs → R U} {x : Str} {p pos : Pos} {kwl : List (List Str × List Nat)}
theorem own_call0 (O : Own X.prog X.w X.K X.mg X.base g k x [] kwl Fm) (hr : Room j X.A) (hkj : k ≤ j) (hgd : X.A.guards = some []) (tk : Takes X Wx) (hg : Gl X x := by rfl) (hdb : (x == ("__debug__" : Str)) = false := by decide) : DE X g Wx (.Call (.Name x p) [] [] pos) (mFn Fm [] maNil) := by
  obtain ⟨f, fd, F, hm, hk, hb, _⟩ := O.ex
  refine ⟨fun pins s σ H Q I ⟨w, τ, c, hs, hh, q⟩ => ?_⟩
  refine wpAny_Call_Name_kw (ld_glob I hg hm ?_ hdb)
  refine PySem.W.callWith_K0 I.kIn hk ?_
  exact runG (bs := []) (vs := []) (uu := []) F (hr.mono hkj) hgd tk I (hb s [] I.kIn) .nil rfl hh rfl q
end
end Mi
/-! MkG: tables of isinstance over error classes -/
namespace Mi
open PySem PySem.Spec PyProof.Rows L2
def exT (K : PySem.W.Frag) (cs : List Addr) (t : List (Nat × Bool)) : Bool := exBs K (t.map fun q => cs.getD q.1 0)
def kitT (K : PySem.W.Frag) (cv : Value) (cs : List Addr) (t : List (Nat × Bool)) : Bool := kitBs K cv (t.map fun q => (cs.getD q.1 0, q.2))
theorem exT_ok {K : PySem.W.Frag} {cs : List Addr} {t t' : List (Nat × Bool)} (h : exT K cs t' = true) (e : t.map (·.1) = t'.map (·.1)) {q : Nat × Bool} (hq : q ∈ t) : ExcC K (cs.getD q.1 0) := by
  have h1 : q.1 ∈ t'.map (·.1) := by rw [← e]; exact List.mem_map_of_mem (f := fun p : Nat × Bool => p.1) hq
  obtain ⟨q', h2, h3⟩ := List.mem_map.mp h1
  exact exBs_ok h (List.mem_map.mpr ⟨q', h2, by rw [h3]⟩)
theorem kitT_ok {K : PySem.W.Frag} {cv : Value} {cs : List Addr} {t : List (Nat × Bool)} (h : kitT K cv cs t = true) {q : Nat × Bool} (hq : q ∈ t) : PySem.W.kitOne K (.ref (cs.getD q.1 0)) cv = some q.2 := kitBs_ok h (List.mem_map.mpr ⟨q, hq, rfl⟩)
end Mi
namespace K01
open PySem PySem.Spec PyProof.Rows L2 Mi
def topS (i : Nat) : Stmt := PySem.Challenge.pw_newsdeeds_k01_errors.main.body.getD i (.Pass ⟨0, 0, 0, 0⟩)
def memS (i j : Nat) : Stmt := match topS i with
  | .ClassDef _ _ _ b _ _ _ _ _ _ _ => b.getD j (.Pass ⟨0, 0, 0, 0⟩)
  | _ => .Pass ⟨0, 0, 0, 0⟩
abbrev s_law_start : Stmt := topS 22
abbrev s_law_draw : Stmt := topS 23
abbrev s_law_bare : Stmt := topS 24
abbrev s_law_values : Stmt := topS 25
abbrev s_law_names : Stmt := topS 26
abbrev s_law_two : Stmt := topS 27
abbrev s_law_kinds : Stmt := topS 28
abbrev s_law_fields_right : Stmt := topS 29
abbrev s_law_very_right : Stmt := topS 30
abbrev s_the_law : Stmt := topS 31
/-- what the top says of names -/
structure Txt (P : Program) (K : PySem.W.Frag) (mg : Str → Option Value) (cl : Nat → Addr) : Prop where
  e_BadText : ErrC K mg "BadText" (cl 2)
  e_ByZero : ErrC K mg "ByZero" (cl 1)
  e_NoBound : ErrC K mg "NoBound" (cl 18)
  e_NothingToUndo : ErrC K mg "NothingToUndo" (cl 19)
  ie_BadCount : ∀ q ∈ ([(0, false), (1, false), (2, false), (3, false), (4, false), (5, false), (6, false), (7, true), (8, false), (9, false), (10, false), (11, false), (12, false), (13, false), (14, false), (15, false), (16, false), (17, false), (18, false), (19, false)] : List (Nat × Bool)), ExcC K (cl q.1) ∧ PySem.W.kitOne K (.ref (cl q.1)) (.ref (cl 7)) = some q.2
  ie_BadKey : ∀ q ∈ ([(0, false), (1, false), (2, false), (3, false), (4, false), (5, false), (6, false), (7, false), (8, true), (9, false), (10, false), (11, false), (12, false), (13, false), (14, false), (15, false), (16, false), (17, false), (18, false), (19, false)] : List (Nat × Bool)), ExcC K (cl q.1) ∧ PySem.W.kitOne K (.ref (cl q.1)) (.ref (cl 8)) = some q.2
  ie_BadName : ∀ q ∈ ([(0, false), (1, false), (2, false), (3, false), (4, true), (5, false), (6, false), (7, false), (8, false), (9, false), (10, false), (11, false), (12, false), (13, false), (14, false), (15, false), (16, false), (17, false), (18, false), (19, false)] : List (Nat × Bool)), ExcC K (cl q.1) ∧ PySem.W.kitOne K (.ref (cl q.1)) (.ref (cl 4)) = some q.2
  ie_BadNumber : ∀ q ∈ ([(0, false), (1, false), (2, false), (3, true), (4, false), (5, false), (6, false), (7, false), (8, false), (9, false), (10, false), (11, false), (12, false), (13, false), (14, false), (15, false), (16, false), (17, false), (18, false), (19, false)] : List (Nat × Bool)), ExcC K (cl q.1) ∧ PySem.W.kitOne K (.ref (cl q.1)) (.ref (cl 3)) = some q.2
  ie_BadPairs : ∀ q ∈ ([(0, false), (1, false), (2, false), (3, false), (4, false), (5, false), (6, false), (7, false), (8, false), (9, false), (10, false), (11, false), (12, false), (13, false), (14, true), (15, false), (16, false), (17, false), (18, false), (19, false)] : List (Nat × Bool)), ExcC K (cl q.1) ∧ PySem.W.kitOne K (.ref (cl q.1)) (.ref (cl 14)) = some q.2
  ie_BadPlan : ∀ q ∈ ([(0, false), (1, false), (2, false), (3, false), (4, false), (5, false), (6, false), (7, false), (8, false), (9, false), (10, false), (11, false), (12, false), (13, true), (14, false), (15, false), (16, false), (17, false), (18, false), (19, false)] : List (Nat × Bool)), ExcC K (cl q.1) ∧ PySem.W.kitOne K (.ref (cl q.1)) (.ref (cl 13)) = some q.2
  ie_BadRow : ∀ q ∈ ([(0, false), (1, false), (2, false), (3, false), (4, false), (5, false), (6, false), (7, false), (8, false), (9, false), (10, false), (11, true), (12, false), (13, false), (14, false), (15, false), (16, false), (17, false), (18, false), (19, false)] : List (Nat × Bool)), ExcC K (cl q.1) ∧ PySem.W.kitOne K (.ref (cl q.1)) (.ref (cl 11)) = some q.2
  ie_BadSum : ∀ q ∈ ([(0, false), (1, false), (2, false), (3, false), (4, false), (5, false), (6, false), (7, false), (8, false), (9, true), (10, false), (11, false), (12, false), (13, false), (14, false), (15, false), (16, false), (17, false), (18, false), (19, false)] : List (Nat × Bool)), ExcC K (cl q.1) ∧ PySem.W.kitOne K (.ref (cl q.1)) (.ref (cl 9)) = some q.2
  ie_BadTable : ∀ q ∈ ([(0, false), (1, false), (2, false), (3, false), (4, false), (5, false), (6, false), (7, false), (8, false), (9, false), (10, false), (11, false), (12, true), (13, false), (14, false), (15, false), (16, false), (17, false), (18, false), (19, false)] : List (Nat × Bool)), ExcC K (cl q.1) ∧ PySem.W.kitOne K (.ref (cl q.1)) (.ref (cl 12)) = some q.2
  ie_BadText : ∀ q ∈ ([(0, false), (1, false), (2, true), (3, false), (4, false), (5, false), (6, false), (7, false), (8, false), (9, false), (10, false), (11, false), (12, false), (13, false), (14, false), (15, false), (16, false), (17, false), (18, false), (19, false)] : List (Nat × Bool)), ExcC K (cl q.1) ∧ PySem.W.kitOne K (.ref (cl q.1)) (.ref (cl 2)) = some q.2
  ie_ByZero : ∀ q ∈ ([(0, false), (1, true), (2, false), (3, false), (4, false), (5, false), (6, false), (7, false), (8, false), (9, false), (10, false), (11, false), (12, false), (13, false), (14, false), (15, false), (16, false), (17, false), (18, false), (19, false)] : List (Nat × Bool)), ExcC K (cl q.1) ∧ PySem.W.kitOne K (.ref (cl q.1)) (.ref (cl 1)) = some q.2
  ie_DuplicateName : ∀ q ∈ ([(0, false), (1, false), (2, false), (3, false), (4, false), (5, true), (6, false), (7, false), (8, false), (9, false), (10, false), (11, false), (12, false), (13, false), (14, false), (15, false), (16, false), (17, false), (18, false), (19, false)] : List (Nat × Bool)), ExcC K (cl q.1) ∧ PySem.W.kitOne K (.ref (cl q.1)) (.ref (cl 5)) = some q.2
  ie_NewsError : ∀ q ∈ ([(0, true), (1, true), (2, true), (3, true), (4, true), (5, true), (6, true), (7, true), (8, true), (9, true), (10, true), (11, true), (12, true), (13, true), (14, true), (15, true), (16, true), (17, true), (18, true), (19, true)] : List (Nat × Bool)), ExcC K (cl q.1) ∧ PySem.W.kitOne K (.ref (cl q.1)) (.ref (cl 0)) = some q.2
  ie_NoBound : ∀ q ∈ ([(0, false), (1, false), (2, false), (3, false), (4, false), (5, false), (6, false), (7, false), (8, false), (9, false), (10, false), (11, false), (12, false), (13, false), (14, false), (15, false), (16, false), (17, false), (18, true), (19, false)] : List (Nat × Bool)), ExcC K (cl q.1) ∧ PySem.W.kitOne K (.ref (cl q.1)) (.ref (cl 18)) = some q.2
  ie_NoNews : ∀ q ∈ ([(0, false), (1, false), (2, false), (3, false), (4, false), (5, false), (6, false), (7, false), (8, false), (9, false), (10, false), (11, false), (12, false), (13, false), (14, false), (15, false), (16, false), (17, true), (18, false), (19, false)] : List (Nat × Bool)), ExcC K (cl q.1) ∧ PySem.W.kitOne K (.ref (cl q.1)) (.ref (cl 17)) = some q.2
  ie_NoWeight : ∀ q ∈ ([(0, false), (1, false), (2, false), (3, false), (4, false), (5, false), (6, false), (7, false), (8, false), (9, false), (10, true), (11, false), (12, false), (13, false), (14, false), (15, false), (16, false), (17, false), (18, false), (19, false)] : List (Nat × Bool)), ExcC K (cl q.1) ∧ PySem.W.kitOne K (.ref (cl q.1)) (.ref (cl 10)) = some q.2
  ie_NothingToUndo : ∀ q ∈ ([(0, false), (1, false), (2, false), (3, false), (4, false), (5, false), (6, false), (7, false), (8, false), (9, false), (10, false), (11, false), (12, false), (13, false), (14, false), (15, false), (16, false), (17, false), (18, false), (19, true)] : List (Nat × Bool)), ExcC K (cl q.1) ∧ PySem.W.kitOne K (.ref (cl q.1)) (.ref (cl 19)) = some q.2
  ie_UnknownName : ∀ q ∈ ([(0, false), (1, false), (2, false), (3, false), (4, false), (5, false), (6, true), (7, false), (8, false), (9, false), (10, false), (11, false), (12, false), (13, false), (14, false), (15, false), (16, false), (17, false), (18, false), (19, false)] : List (Nat × Bool)), ExcC K (cl q.1) ∧ PySem.W.kitOne K (.ref (cl q.1)) (.ref (cl 6)) = some q.2
  ie_UnlikeStates : ∀ q ∈ ([(0, false), (1, false), (2, false), (3, false), (4, false), (5, false), (6, false), (7, false), (8, false), (9, false), (10, false), (11, false), (12, false), (13, false), (14, false), (15, true), (16, false), (17, false), (18, false), (19, false)] : List (Nat × Bool)), ExcC K (cl q.1) ∧ PySem.W.kitOne K (.ref (cl q.1)) (.ref (cl 15)) = some q.2
  ie_UnlikeWeights : ∀ q ∈ ([(0, false), (1, false), (2, false), (3, false), (4, false), (5, false), (6, false), (7, false), (8, false), (9, false), (10, false), (11, false), (12, false), (13, false), (14, false), (15, false), (16, true), (17, false), (18, false), (19, false)] : List (Nat × Bool)), ExcC K (cl q.1) ∧ PySem.W.kitOne K (.ref (cl q.1)) (.ref (cl 16)) = some q.2
  ie_ValueError : ∀ q ∈ ([(0, true), (1, true), (2, true), (3, true), (4, true), (5, true), (6, true), (7, true), (8, true), (9, true), (10, true), (11, true), (12, true), (13, true), (14, true), (15, true), (16, true), (17, true), (18, true), (19, true)] : List (Nat × Bool)), ExcC K (cl q.1) ∧ PySem.W.kitOne K (.ref (cl q.1)) (.type "ValueError") = some q.2
  n_BadCount : mg "BadCount" = some (.ref (cl 7))
  n_BadKey : mg "BadKey" = some (.ref (cl 8))
  n_BadName : mg "BadName" = some (.ref (cl 4))
  n_BadNumber : mg "BadNumber" = some (.ref (cl 3))
  n_BadPairs : mg "BadPairs" = some (.ref (cl 14))
  n_BadPlan : mg "BadPlan" = some (.ref (cl 13))
  n_BadRow : mg "BadRow" = some (.ref (cl 11))
  n_BadSum : mg "BadSum" = some (.ref (cl 9))
  n_BadTable : mg "BadTable" = some (.ref (cl 12))
  n_BadText : mg "BadText" = some (.ref (cl 2))
  n_ByZero : mg "ByZero" = some (.ref (cl 1))
  n_DuplicateName : mg "DuplicateName" = some (.ref (cl 5))
  n_NewsError : mg "NewsError" = some (.ref (cl 0))
  n_NoBound : mg "NoBound" = some (.ref (cl 18))
  n_NoNews : mg "NoNews" = some (.ref (cl 17))
  n_NoWeight : mg "NoWeight" = some (.ref (cl 10))
  n_NothingToUndo : mg "NothingToUndo" = some (.ref (cl 19))
  n_UnknownName : mg "UnknownName" = some (.ref (cl 6))
  n_UnlikeStates : mg "UnlikeStates" = some (.ref (cl 15))
  n_UnlikeWeights : mg "UnlikeWeights" = some (.ref (cl 16))
  v_BadCount : ErrV P K mg "BadCount" (cl 7) ["count"]
  v_BadKey : ErrV P K mg "BadKey" (cl 8) ["key"]
  v_BadName : ErrV P K mg "BadName" (cl 4) ["name"]
  v_BadNumber : ErrV P K mg "BadNumber" (cl 3) ["value"]
  v_BadPairs : ErrV P K mg "BadPairs" (cl 14) ["value"]
  v_BadPlan : ErrV P K mg "BadPlan" (cl 13) ["value"]
  v_BadRow : ErrV P K mg "BadRow" (cl 11) ["value"]
  v_BadSum : ErrV P K mg "BadSum" (cl 9) ["total"]
  v_BadTable : ErrV P K mg "BadTable" (cl 12) ["value"]
  v_DuplicateName : ErrV P K mg "DuplicateName" (cl 5) ["name"]
  v_NoNews : ErrV P K mg "NoNews" (cl 17) ["value"]
  v_NoWeight : ErrV P K mg "NoWeight" (cl 10) ["state"]
  v_UnknownName : ErrV P K mg "UnknownName" (cl 6) ["name"]
  v_UnlikeStates : ErrV P K mg "UnlikeStates" (cl 15) ["other", "one"]
  v_UnlikeWeights : ErrV P K mg "UnlikeWeights" (cl 16) ["other", "one"]
  vk_BadCount : ErrK P K mg "BadCount" (cl 7) ["count"] ["count"] [0]
  vk_BadKey : ErrK P K mg "BadKey" (cl 8) ["key"] ["key"] [0]
  vk_BadName : ErrK P K mg "BadName" (cl 4) ["name"] ["name"] [0]
  vk_BadNumber : ErrK P K mg "BadNumber" (cl 3) ["value"] ["value"] [0]
  vk_BadPairs : ErrK P K mg "BadPairs" (cl 14) ["value"] ["value"] [0]
  vk_BadPlan : ErrK P K mg "BadPlan" (cl 13) ["value"] ["value"] [0]
  vk_BadRow : ErrK P K mg "BadRow" (cl 11) ["value"] ["value"] [0]
  vk_BadSum : ErrK P K mg "BadSum" (cl 9) ["total"] ["total"] [0]
  vk_BadTable : ErrK P K mg "BadTable" (cl 12) ["value"] ["value"] [0]
  vk_DuplicateName : ErrK P K mg "DuplicateName" (cl 5) ["name"] ["name"] [0]
  vk_NoNews : ErrK P K mg "NoNews" (cl 17) ["value"] ["value"] [0]
  vk_NoWeight : ErrK P K mg "NoWeight" (cl 10) ["state"] ["state"] [0]
  vk_UnknownName : ErrK P K mg "UnknownName" (cl 6) ["name"] ["name"] [0]
  vk_UnlikeStates : ErrK P K mg "UnlikeStates" (cl 15) ["other", "one"] ["other", "one"] [1, 0]
  vk_UnlikeWeights : ErrK P K mg "UnlikeWeights" (cl 16) ["other", "one"] ["other", "one"] [1, 0]
  xv_10_state : ∀ C ∈ ([10] : List Nat), XfC K (cl C) ∧ PySem.W.findIn K (.ref (cl C)) "state" = some none
  xv_15a16_one : ∀ C ∈ ([15, 16] : List Nat), XfC K (cl C) ∧ PySem.W.findIn K (.ref (cl C)) "one" = some none
  xv_15a16_other : ∀ C ∈ ([15, 16] : List Nat), XfC K (cl C) ∧ PySem.W.findIn K (.ref (cl C)) "other" = some none
  xv_3a11a12a13a14a17_value : ∀ C ∈ ([3, 11, 12, 13, 14, 17] : List Nat), XfC K (cl C) ∧ PySem.W.findIn K (.ref (cl C)) "value" = some none
  xv_4a5a6_name : ∀ C ∈ ([4, 5, 6] : List Nat), XfC K (cl C) ∧ PySem.W.findIn K (.ref (cl C)) "name" = some none
  xv_7_count : ∀ C ∈ ([7] : List Nat), XfC K (cl C) ∧ PySem.W.findIn K (.ref (cl C)) "count" = some none
  xv_8_key : ∀ C ∈ ([8] : List Nat), XfC K (cl C) ∧ PySem.W.findIn K (.ref (cl C)) "key" = some none
  xv_9_total : ∀ C ∈ ([9] : List Nat), XfC K (cl C) ∧ PySem.W.findIn K (.ref (cl C)) "total" = some none
  n_ValueError : mg "ValueError" = none
  n_abs : mg "abs" = none
  n_int : mg "int" = none
  n_isinstance : mg "isinstance" = none
  n_len : mg "len" = none
  n_list : mg "list" = none
  n_range : mg "range" = none
  n_repr : mg "repr" = none
abbrev gg (K : PySem.W.Frag) (mg : Str → Option Value) (cl : Nat → Addr) : Gc := ⟨K, mg, cl, none⟩
noncomputable def B_law_start : MS := msCons (msRet (mLst true (maCons (mLc 2 [1] (miList (mVar 0)) (tName 1) (mB (m2 fGe (mCall fAbs (maCons (mVar 1) (maNil))) (m2 fPow (mC (.int 10)) (mC (.int 18))))) (mCall fAbs (maCons (mVar 1) (maNil)))) (maCons (m2 (fAdd false) (mCall (fList false) (maCons (mVar 0) (maNil))) (mLst false (maCons (mC (.int 5)) (maNil)))) (maCons (mC (.int 0)) (maNil)))))) (msNil)
noncomputable def F_law_start : List U → Cs → R U := mkF false 2 B_law_start
noncomputable def B_law_draw : MS := msCons (msPut (mVar 0) (mC (.int 2)) (m2 (fAdd false) (m2 fIx (mVar 0) (mC (.int 2))) (mC (.int 1)))) (msCons (msWhile 100 (mtAnd (mB (m2 (fEq true) (m2 fIx (mVar 0) (mC (.int 0))) (mLst false (maNil)))) (mB (m2 (fEq false) (m2 fIx (m2 fIx (mVar 0) (mC (.int 0))) (mC (.int 0))) (mC (.int 0))))) (msCons (msPut (mVar 0) (mC (.int 0)) (mSl true (m2 fIx (mVar 0) (mC (.int 0))) (moSome (mC (.int 1))) (moNone))) (msNil))) (msCons (msIf (mB (m2 (fEq true) (m2 fIx (mVar 0) (mC (.int 0))) (mLst false (maNil)))) (msCons (msSet 4 (m2 fMod (mCall fInt (maCons (m2 fIx (m2 fIx (mVar 0) (mC (.int 0))) (mC (.int 0))) (maNil))) (mVar 1))) (msCons (msPut (m2 fIx (mVar 0) (mC (.int 0))) (mC (.int 0)) (m2 fDiv (m2 fIx (m2 fIx (mVar 0) (mC (.int 0))) (mC (.int 0))) (mVar 1))) (msCons (msRet (mVar 4)) (msNil)))) (msNil)) (msCons (msSet 2 (m2 fMod (mCall fInt (maCons (m2 fIx (m2 fIx (mVar 0) (mC (.int 1))) (m2 fMod (mCall fInt (maCons (m2 fIx (mVar 0) (mC (.int 2))) (maNil))) (mCall fLen (maCons (m2 fIx (mVar 0) (mC (.int 1))) (maNil))))) (maNil))) (mC (.int 2147483647)))) (msCons (msSet 3 (m2 fMod (mCall fInt (maCons (m2 fPow (m2 (fAdd false) (m2 (fAdd false) (m2 (fMul false) (mVar 2) (mC (.int 48271))) (m2 (fMul false) (m2 fIx (mVar 0) (mC (.int 2))) (mC (.int 16807)))) (mC (.int 7))) (mC (.int 5))) (maNil))) (mC (.int 2147483647)))) (msCons (msRet (m2 fMod (m2 fDiv (m2 fMod (mCall fInt (maCons (m2 fPow (m2 (fAdd false) (m2 (fAdd false) (m2 (fMul false) (mVar 3) (mC (.int 69621))) (m2 (fMul false) (m2 fIx (mVar 0) (mC (.int 2))) (mC (.int 40692)))) (mC (.int 13))) (mC (.int 5))) (maNil))) (mC (.int 2147483629))) (mC (.int 16))) (mVar 1))) (msNil))))))
noncomputable def F_law_draw : List U → Cs → R U := mkF false 5 B_law_draw
noncomputable def B_law_bare : MS := msCons (msRet (mLst false (maCons (mErr0 1) (maCons (mErr0 2) (maCons (mErr0 18) (maCons (mErr0 19) (maNil))))))) (msNil)
noncomputable def F_law_bare : List U → Cs → R U := mkF true 0 B_law_bare
noncomputable def B_law_values : MS := msCons (msSet 1 (mLst false (maCons (mErr 3 ["value"] (maCons (mVar 0) (maNil))) (maCons (mErrK 3 ["value"] [0] (maCons (mVar 0) (maNil))) (maCons (mErr 11 ["value"] (maCons (mVar 0) (maNil))) (maCons (mErrK 11 ["value"] [0] (maCons (mVar 0) (maNil))) (maCons (mErr 12 ["value"] (maCons (mVar 0) (maNil))) (maNil)))))))) (msCons (msSet 1 (m2 (fAdd false) (mVar 1) (mLst false (maCons (mErrK 12 ["value"] [0] (maCons (mVar 0) (maNil))) (maCons (mErr 13 ["value"] (maCons (mVar 0) (maNil))) (maCons (mErrK 13 ["value"] [0] (maCons (mVar 0) (maNil))) (maCons (mErr 14 ["value"] (maCons (mVar 0) (maNil))) (maNil)))))))) (msCons (msRet (m2 (fAdd false) (mVar 1) (mLst false (maCons (mErrK 14 ["value"] [0] (maCons (mVar 0) (maNil))) (maCons (mErr 17 ["value"] (maCons (mVar 0) (maNil))) (maCons (mErrK 17 ["value"] [0] (maCons (mVar 0) (maNil))) (maNil))))))) (msNil)))
noncomputable def F_law_values : List U → Cs → R U := mkF false 2 B_law_values
noncomputable def B_law_names : MS := msCons (msSet 1 (mLst false (maCons (mErr 4 ["name"] (maCons (mVar 0) (maNil))) (maCons (mErrK 4 ["name"] [0] (maCons (mVar 0) (maNil))) (maCons (mErr 5 ["name"] (maCons (mVar 0) (maNil))) (maCons (mErrK 5 ["name"] [0] (maCons (mVar 0) (maNil))) (maNil))))))) (msCons (msRet (m2 (fAdd false) (mVar 1) (mLst false (maCons (mErr 6 ["name"] (maCons (mVar 0) (maNil))) (maCons (mErrK 6 ["name"] [0] (maCons (mVar 0) (maNil))) (maNil)))))) (msNil))
noncomputable def F_law_names : List U → Cs → R U := mkF false 2 B_law_names
noncomputable def B_law_two : MS := msCons (msRet (mLst false (maCons (mErr 15 ["other", "one"] (maCons (mVar 0) (maCons (mVar 1) (maNil)))) (maCons (mErrK 15 ["other", "one"] [1, 0] (maCons (mVar 1) (maCons (mVar 0) (maNil)))) (maCons (mErr 16 ["other", "one"] (maCons (mVar 0) (maCons (mVar 1) (maNil)))) (maCons (mErrK 16 ["other", "one"] [1, 0] (maCons (mVar 1) (maCons (mVar 0) (maNil)))) (maNil))))))) (msNil)
noncomputable def F_law_two : List U → Cs → R U := mkF false 2 B_law_two
noncomputable def B_law_kinds : MS := msCons (msSet 1 (mLst false (maCons (mIsE [(0, false), (1, true), (2, false), (3, false), (4, false), (5, false), (6, false), (7, false), (8, false), (9, false), (10, false), (11, false), (12, false), (13, false), (14, false), (15, false), (16, false), (17, false), (18, false), (19, false)] (mVar 0)) (maCons (mIsE [(0, false), (1, false), (2, true), (3, false), (4, false), (5, false), (6, false), (7, false), (8, false), (9, false), (10, false), (11, false), (12, false), (13, false), (14, false), (15, false), (16, false), (17, false), (18, false), (19, false)] (mVar 0)) (maCons (mIsE [(0, false), (1, false), (2, false), (3, false), (4, false), (5, false), (6, false), (7, false), (8, false), (9, false), (10, false), (11, false), (12, false), (13, false), (14, false), (15, false), (16, false), (17, false), (18, true), (19, false)] (mVar 0)) (maNil)))))) (msCons (msSet 1 (m2 (fAdd false) (mVar 1) (mLst false (maCons (mIsE [(0, false), (1, false), (2, false), (3, false), (4, false), (5, false), (6, false), (7, false), (8, false), (9, false), (10, false), (11, false), (12, false), (13, false), (14, false), (15, false), (16, false), (17, false), (18, false), (19, true)] (mVar 0)) (maCons (mIsE [(0, false), (1, false), (2, false), (3, true), (4, false), (5, false), (6, false), (7, false), (8, false), (9, false), (10, false), (11, false), (12, false), (13, false), (14, false), (15, false), (16, false), (17, false), (18, false), (19, false)] (mVar 0)) (maCons (mIsE [(0, false), (1, false), (2, false), (3, false), (4, false), (5, false), (6, false), (7, false), (8, false), (9, false), (10, false), (11, true), (12, false), (13, false), (14, false), (15, false), (16, false), (17, false), (18, false), (19, false)] (mVar 0)) (maNil))))))) (msCons (msSet 1 (m2 (fAdd false) (mVar 1) (mLst false (maCons (mIsE [(0, false), (1, false), (2, false), (3, false), (4, false), (5, false), (6, false), (7, false), (8, false), (9, false), (10, false), (11, false), (12, true), (13, false), (14, false), (15, false), (16, false), (17, false), (18, false), (19, false)] (mVar 0)) (maCons (mIsE [(0, false), (1, false), (2, false), (3, false), (4, false), (5, false), (6, false), (7, false), (8, false), (9, false), (10, false), (11, false), (12, false), (13, true), (14, false), (15, false), (16, false), (17, false), (18, false), (19, false)] (mVar 0)) (maCons (mIsE [(0, false), (1, false), (2, false), (3, false), (4, false), (5, false), (6, false), (7, false), (8, false), (9, false), (10, false), (11, false), (12, false), (13, false), (14, true), (15, false), (16, false), (17, false), (18, false), (19, false)] (mVar 0)) (maNil))))))) (msCons (msSet 1 (m2 (fAdd false) (mVar 1) (mLst false (maCons (mIsE [(0, false), (1, false), (2, false), (3, false), (4, false), (5, false), (6, false), (7, false), (8, false), (9, false), (10, false), (11, false), (12, false), (13, false), (14, false), (15, false), (16, false), (17, true), (18, false), (19, false)] (mVar 0)) (maCons (mIsE [(0, false), (1, false), (2, false), (3, false), (4, true), (5, false), (6, false), (7, false), (8, false), (9, false), (10, false), (11, false), (12, false), (13, false), (14, false), (15, false), (16, false), (17, false), (18, false), (19, false)] (mVar 0)) (maCons (mIsE [(0, false), (1, false), (2, false), (3, false), (4, false), (5, true), (6, false), (7, false), (8, false), (9, false), (10, false), (11, false), (12, false), (13, false), (14, false), (15, false), (16, false), (17, false), (18, false), (19, false)] (mVar 0)) (maNil))))))) (msCons (msSet 1 (m2 (fAdd false) (mVar 1) (mLst false (maCons (mIsE [(0, false), (1, false), (2, false), (3, false), (4, false), (5, false), (6, true), (7, false), (8, false), (9, false), (10, false), (11, false), (12, false), (13, false), (14, false), (15, false), (16, false), (17, false), (18, false), (19, false)] (mVar 0)) (maCons (mIsE [(0, false), (1, false), (2, false), (3, false), (4, false), (5, false), (6, false), (7, true), (8, false), (9, false), (10, false), (11, false), (12, false), (13, false), (14, false), (15, false), (16, false), (17, false), (18, false), (19, false)] (mVar 0)) (maCons (mIsE [(0, false), (1, false), (2, false), (3, false), (4, false), (5, false), (6, false), (7, false), (8, true), (9, false), (10, false), (11, false), (12, false), (13, false), (14, false), (15, false), (16, false), (17, false), (18, false), (19, false)] (mVar 0)) (maNil))))))) (msCons (msSet 1 (m2 (fAdd false) (mVar 1) (mLst false (maCons (mIsE [(0, false), (1, false), (2, false), (3, false), (4, false), (5, false), (6, false), (7, false), (8, false), (9, true), (10, false), (11, false), (12, false), (13, false), (14, false), (15, false), (16, false), (17, false), (18, false), (19, false)] (mVar 0)) (maCons (mIsE [(0, false), (1, false), (2, false), (3, false), (4, false), (5, false), (6, false), (7, false), (8, false), (9, false), (10, true), (11, false), (12, false), (13, false), (14, false), (15, false), (16, false), (17, false), (18, false), (19, false)] (mVar 0)) (maCons (mIsE [(0, false), (1, false), (2, false), (3, false), (4, false), (5, false), (6, false), (7, false), (8, false), (9, false), (10, false), (11, false), (12, false), (13, false), (14, false), (15, true), (16, false), (17, false), (18, false), (19, false)] (mVar 0)) (maNil))))))) (msCons (msRet (mCall fLen (maCons (mLc 0 [2] (miList (m2 (fAdd false) (mVar 1) (mLst false (maCons (mIsE [(0, false), (1, false), (2, false), (3, false), (4, false), (5, false), (6, false), (7, false), (8, false), (9, false), (10, false), (11, false), (12, false), (13, false), (14, false), (15, false), (16, true), (17, false), (18, false), (19, false)] (mVar 0)) (maNil))))) (tName 2) (mTru (mVar 2)) (mVar 2)) (maNil)))) (msNil)))))))
noncomputable def F_law_kinds : List U → Cs → R U := mkF true 3 B_law_kinds
noncomputable def B_law_fields_right : MS := msCons (msSet 2 (mCall fReprD (maCons (mVar 0) (maNil)))) (msCons (msIf (mB (m2 (fEq true) (mLc 0 [3] (miList (mFn F_law_values [] (maCons (mVar 0) (maNil)))) (tName 3) (mB (m2 (fEq true) (mCall fReprD (maCons (mEf [3, 11, 12, 13, 14, 17] "value" (mVar 3)) (maNil))) (mVar 2))) (mVar 3)) (mLst false (maNil)))) (msCons (msRet (mC (.bl false))) (msNil)) (msNil)) (msCons (msIf (mB (m2 (fEq true) (mLc 0 [3] (miList (mFn F_law_names [] (maCons (mVar 0) (maNil)))) (tName 3) (mB (m2 (fEq true) (mCall fReprD (maCons (mEf [4, 5, 6] "name" (mVar 3)) (maNil))) (mVar 2))) (mVar 3)) (mLst false (maNil)))) (msCons (msRet (mC (.bl false))) (msNil)) (msNil)) (msCons (msIf (mB (m2 (fEq true) (mCall fReprD (maCons (mLst false (maCons (mEf [7] "count" (mErr 7 ["count"] (maCons (mVar 0) (maNil)))) (maCons (mEf [7] "count" (mErrK 7 ["count"] [0] (maCons (mVar 0) (maNil)))) (maCons (mEf [8] "key" (mErr 8 ["key"] (maCons (mVar 0) (maNil)))) (maNil))))) (maNil))) (mCall fReprD (maCons (m2 (fMul false) (mLst false (maCons (mVar 0) (maNil))) (mC (.int 3))) (maNil))))) (msCons (msRet (mC (.bl false))) (msNil)) (msNil)) (msCons (msIf (mB (m2 (fEq true) (mCall fReprD (maCons (mLst false (maCons (mEf [8] "key" (mErrK 8 ["key"] [0] (maCons (mVar 0) (maNil)))) (maCons (mEf [9] "total" (mErr 9 ["total"] (maCons (mVar 0) (maNil)))) (maCons (mEf [9] "total" (mErrK 9 ["total"] [0] (maCons (mVar 0) (maNil)))) (maNil))))) (maNil))) (mCall fReprD (maCons (m2 (fMul false) (mLst false (maCons (mVar 0) (maNil))) (mC (.int 3))) (maNil))))) (msCons (msRet (mC (.bl false))) (msNil)) (msNil)) (msCons (msIf (mB (m2 (fEq true) (mCall fReprD (maCons (mLst false (maCons (mEf [10] "state" (mErr 10 ["state"] (maCons (mVar 0) (maNil)))) (maCons (mEf [10] "state" (mErrK 10 ["state"] [0] (maCons (mVar 0) (maNil)))) (maNil)))) (maNil))) (mCall fReprD (maCons (m2 (fMul false) (mLst false (maCons (mVar 0) (maNil))) (mC (.int 2))) (maNil))))) (msCons (msRet (mC (.bl false))) (msNil)) (msNil)) (msCons (msRet (m2 (fEq false) (mLc 0 [3] (miList (mFn F_law_two [] (maCons (mVar 0) (maCons (mVar 1) (maNil))))) (tName 3) (mB (m2 (fEq true) (mCall fReprD (maCons (mLst false (maCons (mEf [15, 16] "one" (mVar 3)) (maCons (mEf [15, 16] "other" (mVar 3)) (maNil)))) (maNil))) (mCall fReprD (maCons (mLst false (maCons (mVar 0) (maCons (mVar 1) (maNil)))) (maNil))))) (mVar 3)) (mLst false (maNil)))) (msNil)))))))
noncomputable def F_law_fields_right : List U → Cs → R U := mkF true 4 B_law_fields_right
noncomputable def B_law_very_right : MS := msCons (msAsg (tTup (tsCons (tName 3) (tsCons (tName 4) (tsNil)))) (mTup (maCons (mLst true (maCons (mC (.int 1)) (maCons (mLst false (maCons (mC (.int 2)) (maNil))) (maCons (mDict 0 (mpCons (mC (.str "a")) (mC (.int 3)) (mpNil))) (maNil))))) (maCons (mDict 2 (mpCons (mC (.str "b")) (mLst false (maCons (mFn F_law_draw [] (maCons (mVar 0) (maCons (mC (.int 9)) (maNil)))) (maNil))) (mpNil))) (maNil))))) (msCons (msPar 5 6 (maCons (mFn F_law_values [] (maCons (mVar 3) (maNil))) (maCons (mFn F_law_names [] (maCons (mVar 3) (maNil))) (maNil)))) (msCons (msSet 1 (mFn F_law_two [] (maCons (mVar 3) (maCons (mVar 4) (maNil))))) (msCons (msPar 7 8 (maCons (mErr 7 ["count"] (maCons (mVar 3) (maNil))) (maCons (mErr 8 ["key"] (maCons (mVar 3) (maNil))) (maNil)))) (msCons (msPar 9 10 (maCons (mErr 9 ["total"] (maCons (mVar 3) (maNil))) (maCons (mErr 10 ["state"] (maCons (mVar 3) (maNil))) (maNil)))) (msCons (msExpr (mApp (mVar 3) (maCons (mFn F_law_draw [] (maCons (mVar 0) (maCons (mC (.int 9)) (maNil)))) (maNil)))) (msCons (msDPut (mVar 4) (mC (.str "c")) (mLst false (maCons (mC (.int 5)) (maNil)))) (msCons (msSet 2 (mCall fReprD (maCons (mVar 3) (maNil)))) (msCons (msIf (mtOr (mB (m2 (fEq true) (mLc 0 [11] (miList (mVar 5)) (tName 11) (mB (m2 (fEq true) (mCall fReprD (maCons (mEf [3, 11, 12, 13, 14, 17] "value" (mVar 11)) (maNil))) (mVar 2))) (mVar 11)) (mLst false (maNil)))) (mB (m2 (fEq true) (mLc 0 [11] (miList (mVar 6)) (tName 11) (mB (m2 (fEq true) (mCall fReprD (maCons (mEf [4, 5, 6] "name" (mVar 11)) (maNil))) (mVar 2))) (mVar 11)) (mLst false (maNil))))) (msCons (msRet (mC (.bl false))) (msNil)) (msNil)) (msCons (msIf (mB (m2 (fEq true) (mCall fReprD (maCons (mLst false (maCons (mEf [7] "count" (mVar 7)) (maCons (mEf [8] "key" (mVar 8)) (maCons (mEf [9] "total" (mVar 9)) (maCons (mEf [10] "state" (mVar 10)) (maNil)))))) (maNil))) (mCall fReprD (maCons (m2 (fMul false) (mLst false (maCons (mVar 3) (maNil))) (mC (.int 4))) (maNil))))) (msCons (msRet (mC (.bl false))) (msNil)) (msNil)) (msCons (msRet (m2 (fEq false) (mLc 0 [11] (miList (mVar 1)) (tName 11) (mB (m2 (fEq true) (mCall fReprD (maCons (mLst false (maCons (mEf [15, 16] "one" (mVar 11)) (maCons (mEf [15, 16] "other" (mVar 11)) (maNil)))) (maNil))) (mCall fReprD (maCons (mLst false (maCons (mVar 3) (maCons (mVar 4) (maNil)))) (maNil))))) (mVar 11)) (mLst false (maNil)))) (msNil)))))))))))
noncomputable def F_law_very_right : List U → Cs → R U := mkF false 12 B_law_very_right
noncomputable def B_the_law : MS := msCons (msSet 1 (mFn F_law_start [] (maCons (mVar 0) (maNil)))) (msCons (msSet 2 (mLst false (maCons (mC .non) (maCons (mC (.bl true)) (maCons (m2 fPow (mC (.int 10)) (mC (.int 30))) (maCons (mC (.str "a b")) (maCons (mLst false (maCons (mC (.int 1)) (maCons (mLst false (maCons (mC (.int 2)) (maNil))) (maNil)))) (maCons (mTup (maCons (mC (.int 1)) (maCons (mC (.str "x")) (maNil)))) (maCons (mDict 0 (mpCons (mC (.str "a")) (mC (.int 1)) (mpNil))) (maCons (m1 fNeg (mC (.int 5))) (maCons (mC (.str "")) (maCons (mDictT (mpCons (mTup (maCons (mC (.str "a")) (maCons (mC (.str "b")) (maNil)))) (mC .non) (mpNil))) (maNil))))))))))))) (msCons (msFor (miRng1 (maCons (mC (.int 2)) (maNil))) (tName 3) (msCons (msPar 6 7 (maCons (m2 fIx (mVar 2) (mFn F_law_draw [] (maCons (mVar 1) (maCons (mC (.int 10)) (maNil))))) (maCons (m2 fIx (mVar 2) (mFn F_law_draw [] (maCons (mVar 1) (maCons (mC (.int 10)) (maNil))))) (maNil)))) (msCons (msIf (mtNot (mTru (mFn F_law_fields_right [] (maCons (mVar 6) (maCons (mVar 7) (maNil)))))) (msCons (msRet (mC (.bl false))) (msNil)) (msNil)) (msCons (msSet 4 (m2 (fAdd false) (m2 (fAdd false) (m2 (fAdd false) (mFn F_law_bare [] maNil) (mFn F_law_two [] (maCons (mVar 6) (maCons (mVar 7) (maNil))))) (mFn F_law_values [] (maCons (mVar 6) (maNil)))) (mFn F_law_names [] (maCons (mVar 6) (maNil))))) (msCons (msFor (miList (m2 (fAdd false) (mVar 4) (mLst false (maCons (mErr 7 ["count"] (maCons (mVar 6) (maNil))) (maCons (mErr 8 ["key"] (maCons (mVar 6) (maNil))) (maCons (mErr 9 ["total"] (maCons (mVar 6) (maNil))) (maCons (mErr 10 ["state"] (maCons (mVar 6) (maNil))) (maNil)))))))) (tName 5) (msCons (msIf (mtOr (mB (m2 (fEq true) (mFn F_law_kinds [] (maCons (mVar 5) (maNil))) (mC (.int 1)))) (mtOr (mtNot (mTru (mIsE [(0, true), (1, true), (2, true), (3, true), (4, true), (5, true), (6, true), (7, true), (8, true), (9, true), (10, true), (11, true), (12, true), (13, true), (14, true), (15, true), (16, true), (17, true), (18, true), (19, true)] (mVar 5)))) (mtNot (mTru (mIsE [(0, true), (1, true), (2, true), (3, true), (4, true), (5, true), (6, true), (7, true), (8, true), (9, true), (10, true), (11, true), (12, true), (13, true), (14, true), (15, true), (16, true), (17, true), (18, true), (19, true)] (mVar 5)))))) (msCons (msRet (mC (.bl false))) (msNil)) (msNil)) (msNil))) (msNil)))))) (msCons (msRet (mFn F_law_very_right [] (maCons (mVar 1) (maNil)))) (msNil))))
noncomputable def F_the_law : List U → Cs → R U := mkF true 8 B_the_law
section
variable {P : Program} {w : World} {K : PySem.W.Frag} {mg : Str → Option Value} {base : Heap} {cl : Nat → Addr}
theorem sc_law_start : FnScope ["_law_script", "_law_cell"] ["_law_script"] (defScope s_law_start) := ⟨rfl, rfl, rfl, by decide +kernel, rfl, by decide +kernel, by decide +kernel⟩
abbrev Ow_law_start (P : Program) (w : World) (K : PySem.W.Frag) (mg : Str → Option Value) (base : Heap) (cl : Nat → Addr) : Prop := Own P w K mg base (gg K mg cl) 1 "_law_start" ["_law_script"] [] F_law_start
theorem ok_law_start {f : Addr} {fd : FuncData} (F : Fun K "_law_start" "_law_start" s_law_start f fd) (T : Txt P K mg cl) : FnG P w K mg base 1 f fd ["_law_script"] (SpF (gg K mg cl) 1 F_law_start) := by
  refine fnG_of false F sc_law_start fun cdv A outer s H E hr hgd => ?_
  have tk := takes_of (X := bodyX P w K mg base ["_law_script", "_law_cell"] "_law_start" s_law_start f cdv A outer s H E) (E := E) rfl rfl rfl rfl
  have pass := passes_of (X := bodyX P w K mg base ["_law_script", "_law_cell"] "_law_start" s_law_start f cdv A outer s H E) rfl
  have sc := sc_law_start
  exact by exact dss_cons (by exact ds_ret (by exact de_lst true (by exact da_cons (by exact de_lc 2 [("_law_cell", 1)] (ix := [1]) (by exact rfl) rfl sc.nd (by exact di_list rfl (by exact de_var 0 (pv 0))) (by exact blkOk_by (N := ["_law_script", "_law_cell"]) (sc := defScope s_law_start) (by decide +kernel)) (by decide) (fun _ _ _ _ _ => by exact dg_name 1 sc.nd) (fun _ _ _ _ _ => by exact by exact dts_one (by exact dt_cmp op_ge (cmp_u _) (by exact de_callB call_abs abs_u (by exact da_cons (by exact de_var 1 (pv 1)) (da_nil)) T.n_abs) (by exact de_bin op_pow pow_u (by exact de_c pe_int) (by exact de_c pe_int)) (nomark _))) (fun _ _ _ _ _ => by exact by exact de_callB call_abs abs_u (by exact da_cons (by exact de_var 1 (pv 1)) (da_nil)) T.n_abs)) (by exact da_cons (by exact de_bin op_addA (add_u (mt := false)) (by exact de_callTy call_list_of (list_u (mt := false)) (by exact da_cons (by exact de_var 0 (pv 0)) (da_nil)) T.n_list) (by exact de_lst false (by exact da_cons (by exact de_c pe_int) (da_nil)))) (by exact da_cons (by exact de_c pe_int) (da_nil)))))) (dss_nil)
theorem sc_law_draw : FnScope ["_law_box", "_law_size", "_law_cell", "_law_mixed", "_law_digit"] ["_law_box", "_law_size"] (defScope s_law_draw) := ⟨rfl, rfl, rfl, by decide +kernel, rfl, by decide +kernel, by decide +kernel⟩
abbrev Ow_law_draw (P : Program) (w : World) (K : PySem.W.Frag) (mg : Str → Option Value) (base : Heap) (cl : Nat → Addr) : Prop := Own P w K mg base (gg K mg cl) 1 "_law_draw" ["_law_box", "_law_size"] [] F_law_draw
theorem ok_law_draw {f : Addr} {fd : FuncData} (F : Fun K "_law_draw" "_law_draw" s_law_draw f fd) (T : Txt P K mg cl) : FnG P w K mg base 1 f fd ["_law_box", "_law_size"] (SpF (gg K mg cl) 2 F_law_draw) := by
  refine fnG_of false F sc_law_draw fun cdv A outer s H E hr hgd => ?_
  have tk := takes_of (X := bodyX P w K mg base ["_law_box", "_law_size", "_law_cell", "_law_mixed", "_law_digit"] "_law_draw" s_law_draw f cdv A outer s H E) (E := E) rfl rfl rfl rfl
  have pass := passes_of (X := bodyX P w K mg base ["_law_box", "_law_size", "_law_cell", "_law_mixed", "_law_digit"] "_law_draw" s_law_draw f cdv A outer s H E) rfl
  have sc := sc_law_draw
  exact by exact dss_cons (by exact ds_put (by exact de_bin op_addA (add_u (mt := false)) (by exact de_ix rfl (by exact de_var 0 (pv 0)) (by exact de_c pe_int)) (by exact de_c pe_int)) (by exact de_var 0 (pv 0)) (by exact de_c pe_int)) (by exact dss_cons (by exact ds_while 100 pass (by exact dt_w (by exact dw_and (by exact dt_cmp (by exact op_neA hr.units) ne_u (by exact de_ix rfl (by exact de_var 0 (pv 0)) (by exact de_c pe_int)) (by exact de_lst false (da_nil)) (nomark _)) (by exact dw_and1 (by exact dt_cmp (by exact op_eqA hr.units) eq_u (by exact de_ix rfl (by exact de_ix rfl (by exact de_var 0 (pv 0)) (by exact de_c pe_int)) (by exact de_c pe_int)) (by exact de_c pe_int) (nomark _))))) (by exact dss_cons (by exact ds_put (by exact de_slice true rfl (by exact de_ix rfl (by exact de_var 0 (pv 0)) (by exact de_c pe_int)) (by exact do_some (by exact de_c pe_int)) (do_none)) (by exact de_var 0 (pv 0)) (by exact de_c pe_int)) (dss_nil))) (by exact dss_cons (by exact ds_if (by exact dt_cmp (by exact op_neA hr.units) ne_u (by exact de_ix rfl (by exact de_var 0 (pv 0)) (by exact de_c pe_int)) (by exact de_lst false (da_nil)) (nomark _)) (by exact dss_cons (by exact ds_set 4 sc.nd (by exact de_bin op_mod mod_u (by exact de_callTy call_int1 int_u (by exact da_cons (by exact de_ix rfl (by exact de_ix rfl (by exact de_var 0 (pv 0)) (by exact de_c pe_int)) (by exact de_c pe_int)) (da_nil)) T.n_int) (by exact de_var 1 (pv 1)))) (by exact dss_cons (by exact ds_put (by exact de_bin op_fdivW div_u (by exact de_ix rfl (by exact de_ix rfl (by exact de_var 0 (pv 0)) (by exact de_c pe_int)) (by exact de_c pe_int)) (by exact de_var 1 (pv 1))) (by exact de_ix rfl (by exact de_var 0 (pv 0)) (by exact de_c pe_int)) (by exact de_c pe_int)) (by exact dss_cons (by exact ds_ret (by exact de_var 4 (pv 4))) (dss_nil)))) (dss_nil)) (by exact dss_cons (by exact ds_set 2 sc.nd (by exact de_bin op_mod mod_u (by exact de_callTy call_int1 int_u (by exact da_cons (by exact de_ix rfl (by exact de_ix rfl (by exact de_var 0 (pv 0)) (by exact de_c pe_int)) (by exact de_bin op_mod mod_u (by exact de_callTy call_int1 int_u (by exact da_cons (by exact de_ix rfl (by exact de_var 0 (pv 0)) (by exact de_c pe_int)) (da_nil)) T.n_int) (by exact de_callB call_lenA len_u (by exact da_cons (by exact de_ix rfl (by exact de_var 0 (pv 0)) (by exact de_c pe_int)) (da_nil)) T.n_len))) (da_nil)) T.n_int) (by exact de_c pe_int))) (by exact dss_cons (by exact ds_set 3 sc.nd (by exact de_bin op_mod mod_u (by exact de_callTy call_int1 int_u (by exact da_cons (by exact de_bin op_pow pow_u (by exact de_bin op_addA (add_u (mt := false)) (by exact de_bin op_addA (add_u (mt := false)) (by exact de_bin op_mulA (mul_u (mt := false)) (by exact de_var 2 (pv 2)) (by exact de_c pe_int)) (by exact de_bin op_mulA (mul_u (mt := false)) (by exact de_ix rfl (by exact de_var 0 (pv 0)) (by exact de_c pe_int)) (by exact de_c pe_int))) (by exact de_c pe_int)) (by exact de_c pe_int)) (da_nil)) T.n_int) (by exact de_c pe_int))) (by exact dss_cons (by exact ds_ret (by exact de_bin op_mod mod_u (by exact de_bin op_fdivW div_u (by exact de_bin op_mod mod_u (by exact de_callTy call_int1 int_u (by exact da_cons (by exact de_bin op_pow pow_u (by exact de_bin op_addA (add_u (mt := false)) (by exact de_bin op_addA (add_u (mt := false)) (by exact de_bin op_mulA (mul_u (mt := false)) (by exact de_var 3 (pv 3)) (by exact de_c pe_int)) (by exact de_bin op_mulA (mul_u (mt := false)) (by exact de_ix rfl (by exact de_var 0 (pv 0)) (by exact de_c pe_int)) (by exact de_c pe_int))) (by exact de_c pe_int)) (by exact de_c pe_int)) (da_nil)) T.n_int) (by exact de_c pe_int)) (by exact de_c pe_int)) (by exact de_var 1 (pv 1)))) (dss_nil))))))
theorem sc_law_bare : FnScope [] [] (defScope s_law_bare) := ⟨rfl, rfl, rfl, by decide +kernel, rfl, by decide +kernel, by decide +kernel⟩
abbrev Ow_law_bare (P : Program) (w : World) (K : PySem.W.Frag) (mg : Str → Option Value) (base : Heap) (cl : Nat → Addr) : Prop := Own P w K mg base (gg K mg cl) 1 "_law_bare" [] [] F_law_bare
theorem ok_law_bare {f : Addr} {fd : FuncData} (F : Fun K "_law_bare" "_law_bare" s_law_bare f fd) (T : Txt P K mg cl) : FnG P w K mg base 1 f fd [] (SpF (gg K mg cl) 0 F_law_bare) := by
  refine fnG_of true F sc_law_bare fun cdv A outer s H E hr hgd => ?_
  have tk := takes_of (X := bodyX P w K mg base [] "_law_bare" s_law_bare f cdv A outer s H E) (E := E) rfl rfl rfl rfl
  have pass := passes_of (X := bodyX P w K mg base [] "_law_bare" s_law_bare f cdv A outer s H E) rfl
  have sc := sc_law_bare
  exact by exact dss_cons (by exact ds_ret (by exact de_lst false (by exact da_cons (by exact de_err0 (i := 1) T.e_ByZero) (by exact da_cons (by exact de_err0 (i := 2) T.e_BadText) (by exact da_cons (by exact de_err0 (i := 18) T.e_NoBound) (by exact da_cons (by exact de_err0 (i := 19) T.e_NothingToUndo) (da_nil))))))) (dss_nil)
theorem sc_law_values : FnScope ["_law_thing", "_law_found"] ["_law_thing"] (defScope s_law_values) := ⟨rfl, rfl, rfl, by decide +kernel, rfl, by decide +kernel, by decide +kernel⟩
abbrev Ow_law_values (P : Program) (w : World) (K : PySem.W.Frag) (mg : Str → Option Value) (base : Heap) (cl : Nat → Addr) : Prop := Own P w K mg base (gg K mg cl) 2 "_law_values" ["_law_thing"] [] F_law_values
theorem ok_law_values {f : Addr} {fd : FuncData} (F : Fun K "_law_values" "_law_values" s_law_values f fd) (T : Txt P K mg cl) : FnG P w K mg base 2 f fd ["_law_thing"] (SpF (gg K mg cl) 1 F_law_values) := by
  refine fnG_of false F sc_law_values fun cdv A outer s H E hr hgd => ?_
  have tk := takes_of (X := bodyX P w K mg base ["_law_thing", "_law_found"] "_law_values" s_law_values f cdv A outer s H E) (E := E) rfl rfl rfl rfl
  have pass := passes_of (X := bodyX P w K mg base ["_law_thing", "_law_found"] "_law_values" s_law_values f cdv A outer s H E) rfl
  have sc := sc_law_values
  exact by exact dss_cons (by exact ds_set 1 sc.nd (by exact de_lst false (by exact da_cons (by exact de_err (i := 3) (j := 0) T.v_BadNumber (hr.mono (by decide)) (by exact da_cons (by exact de_var 0 (pv 0)) (da_nil)) (ma_lenS ma_len0)) (by exact da_cons (by exact de_errK (i := 3) (j := 0) (pm := [0]) T.vk_BadNumber (hr.mono (by decide)) (by exact dk_cons (by exact de_var 0 (pv 0)) (dk_nil)) (by intro us τ c c' h; have := (ma_lenS ma_len0) us τ c c' h; match us, this with | [_], _ => exact ⟨rfl, rfl⟩)) (by exact da_cons (by exact de_err (i := 11) (j := 0) T.v_BadRow (hr.mono (by decide)) (by exact da_cons (by exact de_var 0 (pv 0)) (da_nil)) (ma_lenS ma_len0)) (by exact da_cons (by exact de_errK (i := 11) (j := 0) (pm := [0]) T.vk_BadRow (hr.mono (by decide)) (by exact dk_cons (by exact de_var 0 (pv 0)) (dk_nil)) (by intro us τ c c' h; have := (ma_lenS ma_len0) us τ c c' h; match us, this with | [_], _ => exact ⟨rfl, rfl⟩)) (by exact da_cons (by exact de_err (i := 12) (j := 0) T.v_BadTable (hr.mono (by decide)) (by exact da_cons (by exact de_var 0 (pv 0)) (da_nil)) (ma_lenS ma_len0)) (da_nil)))))))) (by exact dss_cons (by exact ds_set 1 sc.nd (by exact de_bin op_addA (add_u (mt := false)) (by exact de_var 1 (pv 1)) (by exact de_lst false (by exact da_cons (by exact de_errK (i := 12) (j := 0) (pm := [0]) T.vk_BadTable (hr.mono (by decide)) (by exact dk_cons (by exact de_var 0 (pv 0)) (dk_nil)) (by intro us τ c c' h; have := (ma_lenS ma_len0) us τ c c' h; match us, this with | [_], _ => exact ⟨rfl, rfl⟩)) (by exact da_cons (by exact de_err (i := 13) (j := 0) T.v_BadPlan (hr.mono (by decide)) (by exact da_cons (by exact de_var 0 (pv 0)) (da_nil)) (ma_lenS ma_len0)) (by exact da_cons (by exact de_errK (i := 13) (j := 0) (pm := [0]) T.vk_BadPlan (hr.mono (by decide)) (by exact dk_cons (by exact de_var 0 (pv 0)) (dk_nil)) (by intro us τ c c' h; have := (ma_lenS ma_len0) us τ c c' h; match us, this with | [_], _ => exact ⟨rfl, rfl⟩)) (by exact da_cons (by exact de_err (i := 14) (j := 0) T.v_BadPairs (hr.mono (by decide)) (by exact da_cons (by exact de_var 0 (pv 0)) (da_nil)) (ma_lenS ma_len0)) (da_nil)))))))) (by exact dss_cons (by exact ds_ret (by exact de_bin op_addA (add_u (mt := false)) (by exact de_var 1 (pv 1)) (by exact de_lst false (by exact da_cons (by exact de_errK (i := 14) (j := 0) (pm := [0]) T.vk_BadPairs (hr.mono (by decide)) (by exact dk_cons (by exact de_var 0 (pv 0)) (dk_nil)) (by intro us τ c c' h; have := (ma_lenS ma_len0) us τ c c' h; match us, this with | [_], _ => exact ⟨rfl, rfl⟩)) (by exact da_cons (by exact de_err (i := 17) (j := 0) T.v_NoNews (hr.mono (by decide)) (by exact da_cons (by exact de_var 0 (pv 0)) (da_nil)) (ma_lenS ma_len0)) (by exact da_cons (by exact de_errK (i := 17) (j := 0) (pm := [0]) T.vk_NoNews (hr.mono (by decide)) (by exact dk_cons (by exact de_var 0 (pv 0)) (dk_nil)) (by intro us τ c c' h; have := (ma_lenS ma_len0) us τ c c' h; match us, this with | [_], _ => exact ⟨rfl, rfl⟩)) (da_nil))))))) (dss_nil)))
theorem sc_law_names : FnScope ["_law_thing", "_law_found"] ["_law_thing"] (defScope s_law_names) := ⟨rfl, rfl, rfl, by decide +kernel, rfl, by decide +kernel, by decide +kernel⟩
abbrev Ow_law_names (P : Program) (w : World) (K : PySem.W.Frag) (mg : Str → Option Value) (base : Heap) (cl : Nat → Addr) : Prop := Own P w K mg base (gg K mg cl) 2 "_law_names" ["_law_thing"] [] F_law_names
theorem ok_law_names {f : Addr} {fd : FuncData} (F : Fun K "_law_names" "_law_names" s_law_names f fd) (T : Txt P K mg cl) : FnG P w K mg base 2 f fd ["_law_thing"] (SpF (gg K mg cl) 1 F_law_names) := by
  refine fnG_of false F sc_law_names fun cdv A outer s H E hr hgd => ?_
  have tk := takes_of (X := bodyX P w K mg base ["_law_thing", "_law_found"] "_law_names" s_law_names f cdv A outer s H E) (E := E) rfl rfl rfl rfl
  have pass := passes_of (X := bodyX P w K mg base ["_law_thing", "_law_found"] "_law_names" s_law_names f cdv A outer s H E) rfl
  have sc := sc_law_names
  exact by exact dss_cons (by exact ds_set 1 sc.nd (by exact de_lst false (by exact da_cons (by exact de_err (i := 4) (j := 0) T.v_BadName (hr.mono (by decide)) (by exact da_cons (by exact de_var 0 (pv 0)) (da_nil)) (ma_lenS ma_len0)) (by exact da_cons (by exact de_errK (i := 4) (j := 0) (pm := [0]) T.vk_BadName (hr.mono (by decide)) (by exact dk_cons (by exact de_var 0 (pv 0)) (dk_nil)) (by intro us τ c c' h; have := (ma_lenS ma_len0) us τ c c' h; match us, this with | [_], _ => exact ⟨rfl, rfl⟩)) (by exact da_cons (by exact de_err (i := 5) (j := 0) T.v_DuplicateName (hr.mono (by decide)) (by exact da_cons (by exact de_var 0 (pv 0)) (da_nil)) (ma_lenS ma_len0)) (by exact da_cons (by exact de_errK (i := 5) (j := 0) (pm := [0]) T.vk_DuplicateName (hr.mono (by decide)) (by exact dk_cons (by exact de_var 0 (pv 0)) (dk_nil)) (by intro us τ c c' h; have := (ma_lenS ma_len0) us τ c c' h; match us, this with | [_], _ => exact ⟨rfl, rfl⟩)) (da_nil))))))) (by exact dss_cons (by exact ds_ret (by exact de_bin op_addA (add_u (mt := false)) (by exact de_var 1 (pv 1)) (by exact de_lst false (by exact da_cons (by exact de_err (i := 6) (j := 0) T.v_UnknownName (hr.mono (by decide)) (by exact da_cons (by exact de_var 0 (pv 0)) (da_nil)) (ma_lenS ma_len0)) (by exact da_cons (by exact de_errK (i := 6) (j := 0) (pm := [0]) T.vk_UnknownName (hr.mono (by decide)) (by exact dk_cons (by exact de_var 0 (pv 0)) (dk_nil)) (by intro us τ c c' h; have := (ma_lenS ma_len0) us τ c c' h; match us, this with | [_], _ => exact ⟨rfl, rfl⟩)) (da_nil)))))) (dss_nil))
theorem sc_law_two : FnScope ["_law_thing", "_law_far"] ["_law_thing", "_law_far"] (defScope s_law_two) := ⟨rfl, rfl, rfl, by decide +kernel, rfl, by decide +kernel, by decide +kernel⟩
abbrev Ow_law_two (P : Program) (w : World) (K : PySem.W.Frag) (mg : Str → Option Value) (base : Heap) (cl : Nat → Addr) : Prop := Own P w K mg base (gg K mg cl) 2 "_law_two" ["_law_thing", "_law_far"] [] F_law_two
theorem ok_law_two {f : Addr} {fd : FuncData} (F : Fun K "_law_two" "_law_two" s_law_two f fd) (T : Txt P K mg cl) : FnG P w K mg base 2 f fd ["_law_thing", "_law_far"] (SpF (gg K mg cl) 2 F_law_two) := by
  refine fnG_of false F sc_law_two fun cdv A outer s H E hr hgd => ?_
  have tk := takes_of (X := bodyX P w K mg base ["_law_thing", "_law_far"] "_law_two" s_law_two f cdv A outer s H E) (E := E) rfl rfl rfl rfl
  have pass := passes_of (X := bodyX P w K mg base ["_law_thing", "_law_far"] "_law_two" s_law_two f cdv A outer s H E) rfl
  have sc := sc_law_two
  exact by exact dss_cons (by exact ds_ret (by exact de_lst false (by exact da_cons (by exact de_err (i := 15) (j := 0) T.v_UnlikeStates (hr.mono (by decide)) (by exact da_cons (by exact de_var 0 (pv 0)) (by exact da_cons (by exact de_var 1 (pv 1)) (da_nil))) (ma_lenS (ma_lenS ma_len0))) (by exact da_cons (by exact de_errK (i := 15) (j := 0) (pm := [1, 0]) T.vk_UnlikeStates (hr.mono (by decide)) (by exact dk_cons (by exact de_var 1 (pv 1)) (by exact dk_cons (by exact de_var 0 (pv 0)) (dk_nil))) (by intro us τ c c' h; have := (ma_lenS (ma_lenS ma_len0)) us τ c c' h; match us, this with | [_, _], _ => exact ⟨rfl, rfl⟩)) (by exact da_cons (by exact de_err (i := 16) (j := 0) T.v_UnlikeWeights (hr.mono (by decide)) (by exact da_cons (by exact de_var 0 (pv 0)) (by exact da_cons (by exact de_var 1 (pv 1)) (da_nil))) (ma_lenS (ma_lenS ma_len0))) (by exact da_cons (by exact de_errK (i := 16) (j := 0) (pm := [1, 0]) T.vk_UnlikeWeights (hr.mono (by decide)) (by exact dk_cons (by exact de_var 1 (pv 1)) (by exact dk_cons (by exact de_var 0 (pv 0)) (dk_nil))) (by intro us τ c c' h; have := (ma_lenS (ma_lenS ma_len0)) us τ c c' h; match us, this with | [_, _], _ => exact ⟨rfl, rfl⟩)) (da_nil))))))) (dss_nil)
theorem sc_law_kinds : FnScope ["_law_error", "_law_found", "_law_fits"] ["_law_error"] (defScope s_law_kinds) := ⟨rfl, rfl, rfl, by decide +kernel, rfl, by decide +kernel, by decide +kernel⟩
abbrev Ow_law_kinds (P : Program) (w : World) (K : PySem.W.Frag) (mg : Str → Option Value) (base : Heap) (cl : Nat → Addr) : Prop := Own P w K mg base (gg K mg cl) 1 "_law_kinds" ["_law_error"] [] F_law_kinds
theorem ok_law_kinds {f : Addr} {fd : FuncData} (F : Fun K "_law_kinds" "_law_kinds" s_law_kinds f fd) (T : Txt P K mg cl) : FnG P w K mg base 1 f fd ["_law_error"] (SpF (gg K mg cl) 1 F_law_kinds) := by
  refine fnG_of true F sc_law_kinds fun cdv A outer s H E hr hgd => ?_
  have tk := takes_of (X := bodyX P w K mg base ["_law_error", "_law_found", "_law_fits"] "_law_kinds" s_law_kinds f cdv A outer s H E) (E := E) rfl rfl rfl rfl
  have pass := passes_of (X := bodyX P w K mg base ["_law_error", "_law_found", "_law_fits"] "_law_kinds" s_law_kinds f cdv A outer s H E) rfl
  have sc := sc_law_kinds
  exact by exact dss_cons (by exact ds_set 1 sc.nd (by exact de_lst false (by exact da_cons (by exact de_isE T.ie_ByZero (by exact de_var 0 (pv 0)) T.n_isinstance T.n_ByZero) (by exact da_cons (by exact de_isE T.ie_BadText (by exact de_var 0 (pv 0)) T.n_isinstance T.n_BadText) (by exact da_cons (by exact de_isE T.ie_NoBound (by exact de_var 0 (pv 0)) T.n_isinstance T.n_NoBound) (da_nil)))))) (by exact dss_cons (by exact ds_set 1 sc.nd (by exact de_bin op_addA (add_u (mt := false)) (by exact de_var 1 (pv 1)) (by exact de_lst false (by exact da_cons (by exact de_isE T.ie_NothingToUndo (by exact de_var 0 (pv 0)) T.n_isinstance T.n_NothingToUndo) (by exact da_cons (by exact de_isE T.ie_BadNumber (by exact de_var 0 (pv 0)) T.n_isinstance T.n_BadNumber) (by exact da_cons (by exact de_isE T.ie_BadRow (by exact de_var 0 (pv 0)) T.n_isinstance T.n_BadRow) (da_nil))))))) (by exact dss_cons (by exact ds_set 1 sc.nd (by exact de_bin op_addA (add_u (mt := false)) (by exact de_var 1 (pv 1)) (by exact de_lst false (by exact da_cons (by exact de_isE T.ie_BadTable (by exact de_var 0 (pv 0)) T.n_isinstance T.n_BadTable) (by exact da_cons (by exact de_isE T.ie_BadPlan (by exact de_var 0 (pv 0)) T.n_isinstance T.n_BadPlan) (by exact da_cons (by exact de_isE T.ie_BadPairs (by exact de_var 0 (pv 0)) T.n_isinstance T.n_BadPairs) (da_nil))))))) (by exact dss_cons (by exact ds_set 1 sc.nd (by exact de_bin op_addA (add_u (mt := false)) (by exact de_var 1 (pv 1)) (by exact de_lst false (by exact da_cons (by exact de_isE T.ie_NoNews (by exact de_var 0 (pv 0)) T.n_isinstance T.n_NoNews) (by exact da_cons (by exact de_isE T.ie_BadName (by exact de_var 0 (pv 0)) T.n_isinstance T.n_BadName) (by exact da_cons (by exact de_isE T.ie_DuplicateName (by exact de_var 0 (pv 0)) T.n_isinstance T.n_DuplicateName) (da_nil))))))) (by exact dss_cons (by exact ds_set 1 sc.nd (by exact de_bin op_addA (add_u (mt := false)) (by exact de_var 1 (pv 1)) (by exact de_lst false (by exact da_cons (by exact de_isE T.ie_UnknownName (by exact de_var 0 (pv 0)) T.n_isinstance T.n_UnknownName) (by exact da_cons (by exact de_isE T.ie_BadCount (by exact de_var 0 (pv 0)) T.n_isinstance T.n_BadCount) (by exact da_cons (by exact de_isE T.ie_BadKey (by exact de_var 0 (pv 0)) T.n_isinstance T.n_BadKey) (da_nil))))))) (by exact dss_cons (by exact ds_set 1 sc.nd (by exact de_bin op_addA (add_u (mt := false)) (by exact de_var 1 (pv 1)) (by exact de_lst false (by exact da_cons (by exact de_isE T.ie_BadSum (by exact de_var 0 (pv 0)) T.n_isinstance T.n_BadSum) (by exact da_cons (by exact de_isE T.ie_NoWeight (by exact de_var 0 (pv 0)) T.n_isinstance T.n_NoWeight) (by exact da_cons (by exact de_isE T.ie_UnlikeStates (by exact de_var 0 (pv 0)) T.n_isinstance T.n_UnlikeStates) (da_nil))))))) (by exact dss_cons (by exact ds_ret (by exact de_callB call_lenA len_u (by exact da_cons (by exact de_lc 0 [("_law_fits", 2)] (ix := [2]) (by exact rfl) rfl sc.nd (by exact di_list rfl (by exact de_bin op_addA (add_u (mt := false)) (by exact de_var 1 (pv 1)) (by exact de_lst false (by exact da_cons (by exact de_isE T.ie_UnlikeWeights (by exact de_var 0 (pv 0)) T.n_isinstance T.n_UnlikeWeights) (da_nil))))) (by exact blkOk_by (N := ["_law_error", "_law_found", "_law_fits"]) (sc := defScope s_law_kinds) (by decide +kernel)) (by decide) (fun _ _ _ _ _ => by exact dg_name 2 sc.nd) (fun _ _ _ _ _ => by exact by exact dts_one (by exact dt_of rfl (by exact de_var 2 (pv 2)))) (fun _ _ _ _ _ => by exact by exact de_var 2 (pv 2))) (da_nil)) T.n_len)) (dss_nil)))))))
theorem sc_law_fields_right : FnScope ["_law_thing", "_law_far", "_law_shown", "_law_e"] ["_law_thing", "_law_far"] (defScope s_law_fields_right) := ⟨rfl, rfl, rfl, by decide +kernel, rfl, by decide +kernel, by decide +kernel⟩
abbrev Ow_law_fields_right (P : Program) (w : World) (K : PySem.W.Frag) (mg : Str → Option Value) (base : Heap) (cl : Nat → Addr) : Prop := Own P w K mg base (gg K mg cl) 3 "_law_fields_right" ["_law_thing", "_law_far"] [] F_law_fields_right
theorem ok_law_fields_right {f : Addr} {fd : FuncData} (F : Fun K "_law_fields_right" "_law_fields_right" s_law_fields_right f fd) (T : Txt P K mg cl) (O_law_names : Ow_law_names P w K mg base cl) (O_law_two : Ow_law_two P w K mg base cl) (O_law_values : Ow_law_values P w K mg base cl) : FnG P w K mg base 3 f fd ["_law_thing", "_law_far"] (SpF (gg K mg cl) 2 F_law_fields_right) := by
  refine fnG_of true F sc_law_fields_right fun cdv A outer s H E hr hgd => ?_
  have tk := takes_of (X := bodyX P w K mg base ["_law_thing", "_law_far", "_law_shown", "_law_e"] "_law_fields_right" s_law_fields_right f cdv A outer s H E) (E := E) rfl rfl rfl rfl
  have pass := passes_of (X := bodyX P w K mg base ["_law_thing", "_law_far", "_law_shown", "_law_e"] "_law_fields_right" s_law_fields_right f cdv A outer s H E) rfl
  have sc := sc_law_fields_right
  exact by exact dss_cons (by exact ds_set 2 sc.nd (by exact de_callB (by exact call_reprD hgd hr.units) reprD_u (by exact da_cons (by exact de_var 0 (pv 0)) (da_nil)) T.n_repr)) (by exact dss_cons (by exact ds_if (by exact dt_cmp (by exact op_neA hr.units) ne_u (by exact de_lc 0 [("_law_e", 3)] (ix := [3]) (by exact rfl) rfl sc.nd (by exact di_list rfl (by exact own_call O_law_values hr (by decide) hgd tk (by exact da_cons (by exact de_var 0 (pv 0)) (da_nil)) (ma_lenS ma_len0))) (by exact blkOk_by (N := ["_law_thing", "_law_far", "_law_shown", "_law_e"]) (sc := defScope s_law_fields_right) (by decide +kernel)) (by decide) (fun _ _ _ _ _ => by exact dg_name 3 sc.nd) (fun _ _ _ _ _ => by exact by exact dts_one (by exact dt_cmp (by exact op_neA hr.units) ne_u (by exact de_callB (by exact call_reprD hgd hr.units) reprD_u (by exact da_cons (by exact de_ef (cs := [3, 11, 12, 13, 14, 17]) T.xv_3a11a12a13a14a17_value (by exact de_var 3 (pv 3))) (da_nil)) T.n_repr) (by exact de_var 2 (pv 2)) (nomark _))) (fun _ _ _ _ _ => by exact by exact de_var 3 (pv 3))) (by exact de_lst false (da_nil)) (nomark _)) (by exact dss_cons (by exact ds_ret (by exact de_c pe_bl)) (dss_nil)) (dss_nil)) (by exact dss_cons (by exact ds_if (by exact dt_cmp (by exact op_neA hr.units) ne_u (by exact de_lc 0 [("_law_e", 3)] (ix := [3]) (by exact rfl) rfl sc.nd (by exact di_list rfl (by exact own_call O_law_names hr (by decide) hgd tk (by exact da_cons (by exact de_var 0 (pv 0)) (da_nil)) (ma_lenS ma_len0))) (by exact blkOk_by (N := ["_law_thing", "_law_far", "_law_shown", "_law_e"]) (sc := defScope s_law_fields_right) (by decide +kernel)) (by decide) (fun _ _ _ _ _ => by exact dg_name 3 sc.nd) (fun _ _ _ _ _ => by exact by exact dts_one (by exact dt_cmp (by exact op_neA hr.units) ne_u (by exact de_callB (by exact call_reprD hgd hr.units) reprD_u (by exact da_cons (by exact de_ef (cs := [4, 5, 6]) T.xv_4a5a6_name (by exact de_var 3 (pv 3))) (da_nil)) T.n_repr) (by exact de_var 2 (pv 2)) (nomark _))) (fun _ _ _ _ _ => by exact by exact de_var 3 (pv 3))) (by exact de_lst false (da_nil)) (nomark _)) (by exact dss_cons (by exact ds_ret (by exact de_c pe_bl)) (dss_nil)) (dss_nil)) (by exact dss_cons (by exact ds_if (by exact dt_cmp (by exact op_neA hr.units) ne_u (by exact de_callB (by exact call_reprD hgd hr.units) reprD_u (by exact da_cons (by exact de_lst false (by exact da_cons (by exact de_ef (cs := [7]) T.xv_7_count (by exact de_err (i := 7) (j := 0) T.v_BadCount (hr.mono (by decide)) (by exact da_cons (by exact de_var 0 (pv 0)) (da_nil)) (ma_lenS ma_len0))) (by exact da_cons (by exact de_ef (cs := [7]) T.xv_7_count (by exact de_errK (i := 7) (j := 0) (pm := [0]) T.vk_BadCount (hr.mono (by decide)) (by exact dk_cons (by exact de_var 0 (pv 0)) (dk_nil)) (by intro us τ c c' h; have := (ma_lenS ma_len0) us τ c c' h; match us, this with | [_], _ => exact ⟨rfl, rfl⟩))) (by exact da_cons (by exact de_ef (cs := [8]) T.xv_8_key (by exact de_err (i := 8) (j := 0) T.v_BadKey (hr.mono (by decide)) (by exact da_cons (by exact de_var 0 (pv 0)) (da_nil)) (ma_lenS ma_len0))) (da_nil))))) (da_nil)) T.n_repr) (by exact de_callB (by exact call_reprD hgd hr.units) reprD_u (by exact da_cons (by exact de_bin op_mulA (mul_u (mt := false)) (by exact de_lst false (by exact da_cons (by exact de_var 0 (pv 0)) (da_nil))) (by exact de_c pe_int)) (da_nil)) T.n_repr) (nomark _)) (by exact dss_cons (by exact ds_ret (by exact de_c pe_bl)) (dss_nil)) (dss_nil)) (by exact dss_cons (by exact ds_if (by exact dt_cmp (by exact op_neA hr.units) ne_u (by exact de_callB (by exact call_reprD hgd hr.units) reprD_u (by exact da_cons (by exact de_lst false (by exact da_cons (by exact de_ef (cs := [8]) T.xv_8_key (by exact de_errK (i := 8) (j := 0) (pm := [0]) T.vk_BadKey (hr.mono (by decide)) (by exact dk_cons (by exact de_var 0 (pv 0)) (dk_nil)) (by intro us τ c c' h; have := (ma_lenS ma_len0) us τ c c' h; match us, this with | [_], _ => exact ⟨rfl, rfl⟩))) (by exact da_cons (by exact de_ef (cs := [9]) T.xv_9_total (by exact de_err (i := 9) (j := 0) T.v_BadSum (hr.mono (by decide)) (by exact da_cons (by exact de_var 0 (pv 0)) (da_nil)) (ma_lenS ma_len0))) (by exact da_cons (by exact de_ef (cs := [9]) T.xv_9_total (by exact de_errK (i := 9) (j := 0) (pm := [0]) T.vk_BadSum (hr.mono (by decide)) (by exact dk_cons (by exact de_var 0 (pv 0)) (dk_nil)) (by intro us τ c c' h; have := (ma_lenS ma_len0) us τ c c' h; match us, this with | [_], _ => exact ⟨rfl, rfl⟩))) (da_nil))))) (da_nil)) T.n_repr) (by exact de_callB (by exact call_reprD hgd hr.units) reprD_u (by exact da_cons (by exact de_bin op_mulA (mul_u (mt := false)) (by exact de_lst false (by exact da_cons (by exact de_var 0 (pv 0)) (da_nil))) (by exact de_c pe_int)) (da_nil)) T.n_repr) (nomark _)) (by exact dss_cons (by exact ds_ret (by exact de_c pe_bl)) (dss_nil)) (dss_nil)) (by exact dss_cons (by exact ds_if (by exact dt_cmp (by exact op_neA hr.units) ne_u (by exact de_callB (by exact call_reprD hgd hr.units) reprD_u (by exact da_cons (by exact de_lst false (by exact da_cons (by exact de_ef (cs := [10]) T.xv_10_state (by exact de_err (i := 10) (j := 0) T.v_NoWeight (hr.mono (by decide)) (by exact da_cons (by exact de_var 0 (pv 0)) (da_nil)) (ma_lenS ma_len0))) (by exact da_cons (by exact de_ef (cs := [10]) T.xv_10_state (by exact de_errK (i := 10) (j := 0) (pm := [0]) T.vk_NoWeight (hr.mono (by decide)) (by exact dk_cons (by exact de_var 0 (pv 0)) (dk_nil)) (by intro us τ c c' h; have := (ma_lenS ma_len0) us τ c c' h; match us, this with | [_], _ => exact ⟨rfl, rfl⟩))) (da_nil)))) (da_nil)) T.n_repr) (by exact de_callB (by exact call_reprD hgd hr.units) reprD_u (by exact da_cons (by exact de_bin op_mulA (mul_u (mt := false)) (by exact de_lst false (by exact da_cons (by exact de_var 0 (pv 0)) (da_nil))) (by exact de_c pe_int)) (da_nil)) T.n_repr) (nomark _)) (by exact dss_cons (by exact ds_ret (by exact de_c pe_bl)) (dss_nil)) (dss_nil)) (by exact dss_cons (by exact ds_ret (by exact de_cmp (by exact op_eqA hr.units) eq_u (by exact de_lc 0 [("_law_e", 3)] (ix := [3]) (by exact rfl) rfl sc.nd (by exact di_list rfl (by exact own_call O_law_two hr (by decide) hgd tk (by exact da_cons (by exact de_var 0 (pv 0)) (by exact da_cons (by exact de_var 1 (pv 1)) (da_nil))) (ma_lenS (ma_lenS ma_len0)))) (by exact blkOk_by (N := ["_law_thing", "_law_far", "_law_shown", "_law_e"]) (sc := defScope s_law_fields_right) (by decide +kernel)) (by decide) (fun _ _ _ _ _ => by exact dg_name 3 sc.nd) (fun _ _ _ _ _ => by exact by exact dts_one (by exact dt_cmp (by exact op_neA hr.units) ne_u (by exact de_callB (by exact call_reprD hgd hr.units) reprD_u (by exact da_cons (by exact de_lst false (by exact da_cons (by exact de_ef (cs := [15, 16]) T.xv_15a16_one (by exact de_var 3 (pv 3))) (by exact da_cons (by exact de_ef (cs := [15, 16]) T.xv_15a16_other (by exact de_var 3 (pv 3))) (da_nil)))) (da_nil)) T.n_repr) (by exact de_callB (by exact call_reprD hgd hr.units) reprD_u (by exact da_cons (by exact de_lst false (by exact da_cons (by exact de_var 0 (pv 0)) (by exact da_cons (by exact de_var 1 (pv 1)) (da_nil)))) (da_nil)) T.n_repr) (nomark _))) (fun _ _ _ _ _ => by exact by exact de_var 3 (pv 3))) (by exact de_lst false (da_nil)) (nomark _))) (dss_nil)))))))
theorem sc_law_very_right : FnScope ["_law_box", "_law_two_here", "_law_shown", "_law_thing", "_law_far", "_law_values_here", "_law_names_here", "_law_counts", "_law_keys", "_law_sums", "_law_states", "_law_e"] ["_law_box"] (defScope s_law_very_right) := ⟨rfl, rfl, rfl, by decide +kernel, rfl, by decide +kernel, by decide +kernel⟩
abbrev Ow_law_very_right (P : Program) (w : World) (K : PySem.W.Frag) (mg : Str → Option Value) (base : Heap) (cl : Nat → Addr) : Prop := Own P w K mg base (gg K mg cl) 3 "_law_very_right" ["_law_box"] [] F_law_very_right
theorem ok_law_very_right {f : Addr} {fd : FuncData} (F : Fun K "_law_very_right" "_law_very_right" s_law_very_right f fd) (T : Txt P K mg cl) (O_law_draw : Ow_law_draw P w K mg base cl) (O_law_names : Ow_law_names P w K mg base cl) (O_law_two : Ow_law_two P w K mg base cl) (O_law_values : Ow_law_values P w K mg base cl) : FnG P w K mg base 3 f fd ["_law_box"] (SpF (gg K mg cl) 1 F_law_very_right) := by
  refine fnG_of false F sc_law_very_right fun cdv A outer s H E hr hgd => ?_
  have tk := takes_of (X := bodyX P w K mg base ["_law_box", "_law_two_here", "_law_shown", "_law_thing", "_law_far", "_law_values_here", "_law_names_here", "_law_counts", "_law_keys", "_law_sums", "_law_states", "_law_e"] "_law_very_right" s_law_very_right f cdv A outer s H E) (E := E) rfl rfl rfl rfl
  have pass := passes_of (X := bodyX P w K mg base ["_law_box", "_law_two_here", "_law_shown", "_law_thing", "_law_far", "_law_values_here", "_law_names_here", "_law_counts", "_law_keys", "_law_sums", "_law_states", "_law_e"] "_law_very_right" s_law_very_right f cdv A outer s H E) rfl
  have sc := sc_law_very_right
  exact by exact dss_cons (by exact ds_asg (by exact de_tup (by exact da_cons (by exact de_lst true (by exact da_cons (by exact de_c pe_int) (by exact da_cons (by exact de_lst false (by exact da_cons (by exact de_c pe_int) (da_nil))) (by exact da_cons (by exact de_dict 0 (by exact dps_cons (by exact de_c pe_str) (by exact de_c pe_int) (dps_nil))) (da_nil))))) (by exact da_cons (by exact de_dict 2 (by exact dps_cons (by exact de_c pe_str) (by exact de_lst false (by exact da_cons (by exact own_call O_law_draw hr (by decide) hgd tk (by exact da_cons (by exact de_var 0 (pv 0)) (by exact da_cons (by exact de_c pe_int) (da_nil))) (ma_lenS (ma_lenS ma_len0))) (da_nil))) (dps_nil))) (da_nil)))) (dg_tup rfl rfl (by exact dgs_cons (dg_name 3 sc.nd) (by exact dgs_cons (dg_name 4 sc.nd) (dgs_nil))) (ts_lenS (ts_lenS ts_len0)))) (by exact dss_cons (by exact ds_par 5 6 rfl sc.nd (by exact da_cons (by exact own_call O_law_values hr (by decide) hgd tk (by exact da_cons (by exact de_var 3 (pv 3)) (da_nil)) (ma_lenS ma_len0)) (by exact da_cons (by exact own_call O_law_names hr (by decide) hgd tk (by exact da_cons (by exact de_var 3 (pv 3)) (da_nil)) (ma_lenS ma_len0)) (da_nil)))) (by exact dss_cons (by exact ds_set 1 sc.nd (by exact own_call O_law_two hr (by decide) hgd tk (by exact da_cons (by exact de_var 3 (pv 3)) (by exact da_cons (by exact de_var 4 (pv 4)) (da_nil))) (ma_lenS (ma_lenS ma_len0)))) (by exact dss_cons (by exact ds_par 7 8 rfl sc.nd (by exact da_cons (by exact de_err (i := 7) (j := 0) T.v_BadCount (hr.mono (by decide)) (by exact da_cons (by exact de_var 3 (pv 3)) (da_nil)) (ma_lenS ma_len0)) (by exact da_cons (by exact de_err (i := 8) (j := 0) T.v_BadKey (hr.mono (by decide)) (by exact da_cons (by exact de_var 3 (pv 3)) (da_nil)) (ma_lenS ma_len0)) (da_nil)))) (by exact dss_cons (by exact ds_par 9 10 rfl sc.nd (by exact da_cons (by exact de_err (i := 9) (j := 0) T.v_BadSum (hr.mono (by decide)) (by exact da_cons (by exact de_var 3 (pv 3)) (da_nil)) (ma_lenS ma_len0)) (by exact da_cons (by exact de_err (i := 10) (j := 0) T.v_NoWeight (hr.mono (by decide)) (by exact da_cons (by exact de_var 3 (pv 3)) (da_nil)) (ma_lenS ma_len0)) (da_nil)))) (by exact dss_cons (by exact ds_expr (by exact de_app rfl (by exact de_var 3 (pv 3)) (by exact da_cons (by exact own_call O_law_draw hr (by decide) hgd tk (by exact da_cons (by exact de_var 0 (pv 0)) (by exact da_cons (by exact de_c pe_int) (da_nil))) (ma_lenS (ma_lenS ma_len0))) (da_nil)))) (by exact dss_cons (by exact ds_dput (by have := hr.units; omega) (by exact de_lst false (by exact da_cons (by exact de_c pe_int) (da_nil))) (by exact de_var 4 (pv 4)) (by exact de_c pe_str)) (by exact dss_cons (by exact ds_set 2 sc.nd (by exact de_callB (by exact call_reprD hgd hr.units) reprD_u (by exact da_cons (by exact de_var 3 (pv 3)) (da_nil)) T.n_repr)) (by exact dss_cons (by exact ds_if (by exact dt_w (by exact dw_or (by exact dt_cmp (by exact op_neA hr.units) ne_u (by exact de_lc 0 [("_law_e", 11)] (ix := [11]) (by exact rfl) rfl sc.nd (by exact di_list rfl (by exact de_var 5 (pv 5))) (by exact blkOk_by (N := ["_law_box", "_law_two_here", "_law_shown", "_law_thing", "_law_far", "_law_values_here", "_law_names_here", "_law_counts", "_law_keys", "_law_sums", "_law_states", "_law_e"]) (sc := defScope s_law_very_right) (by decide +kernel)) (by decide) (fun _ _ _ _ _ => by exact dg_name 11 sc.nd) (fun _ _ _ _ _ => by exact by exact dts_one (by exact dt_cmp (by exact op_neA hr.units) ne_u (by exact de_callB (by exact call_reprD hgd hr.units) reprD_u (by exact da_cons (by exact de_ef (cs := [3, 11, 12, 13, 14, 17]) T.xv_3a11a12a13a14a17_value (by exact de_var 11 (pv 11))) (da_nil)) T.n_repr) (by exact de_var 2 (pv 2)) (nomark _))) (fun _ _ _ _ _ => by exact by exact de_var 11 (pv 11))) (by exact de_lst false (da_nil)) (nomark _)) (by exact dw_or1 (by exact dt_cmp (by exact op_neA hr.units) ne_u (by exact de_lc 0 [("_law_e", 11)] (ix := [11]) (by exact rfl) rfl sc.nd (by exact di_list rfl (by exact de_var 6 (pv 6))) (by exact blkOk_by (N := ["_law_box", "_law_two_here", "_law_shown", "_law_thing", "_law_far", "_law_values_here", "_law_names_here", "_law_counts", "_law_keys", "_law_sums", "_law_states", "_law_e"]) (sc := defScope s_law_very_right) (by decide +kernel)) (by decide) (fun _ _ _ _ _ => by exact dg_name 11 sc.nd) (fun _ _ _ _ _ => by exact by exact dts_one (by exact dt_cmp (by exact op_neA hr.units) ne_u (by exact de_callB (by exact call_reprD hgd hr.units) reprD_u (by exact da_cons (by exact de_ef (cs := [4, 5, 6]) T.xv_4a5a6_name (by exact de_var 11 (pv 11))) (da_nil)) T.n_repr) (by exact de_var 2 (pv 2)) (nomark _))) (fun _ _ _ _ _ => by exact by exact de_var 11 (pv 11))) (by exact de_lst false (da_nil)) (nomark _))))) (by exact dss_cons (by exact ds_ret (by exact de_c pe_bl)) (dss_nil)) (dss_nil)) (by exact dss_cons (by exact ds_if (by exact dt_cmp (by exact op_neA hr.units) ne_u (by exact de_callB (by exact call_reprD hgd hr.units) reprD_u (by exact da_cons (by exact de_lst false (by exact da_cons (by exact de_ef (cs := [7]) T.xv_7_count (by exact de_var 7 (pv 7))) (by exact da_cons (by exact de_ef (cs := [8]) T.xv_8_key (by exact de_var 8 (pv 8))) (by exact da_cons (by exact de_ef (cs := [9]) T.xv_9_total (by exact de_var 9 (pv 9))) (by exact da_cons (by exact de_ef (cs := [10]) T.xv_10_state (by exact de_var 10 (pv 10))) (da_nil)))))) (da_nil)) T.n_repr) (by exact de_callB (by exact call_reprD hgd hr.units) reprD_u (by exact da_cons (by exact de_bin op_mulA (mul_u (mt := false)) (by exact de_lst false (by exact da_cons (by exact de_var 3 (pv 3)) (da_nil))) (by exact de_c pe_int)) (da_nil)) T.n_repr) (nomark _)) (by exact dss_cons (by exact ds_ret (by exact de_c pe_bl)) (dss_nil)) (dss_nil)) (by exact dss_cons (by exact ds_ret (by exact de_cmp (by exact op_eqA hr.units) eq_u (by exact de_lc 0 [("_law_e", 11)] (ix := [11]) (by exact rfl) rfl sc.nd (by exact di_list rfl (by exact de_var 1 (pv 1))) (by exact blkOk_by (N := ["_law_box", "_law_two_here", "_law_shown", "_law_thing", "_law_far", "_law_values_here", "_law_names_here", "_law_counts", "_law_keys", "_law_sums", "_law_states", "_law_e"]) (sc := defScope s_law_very_right) (by decide +kernel)) (by decide) (fun _ _ _ _ _ => by exact dg_name 11 sc.nd) (fun _ _ _ _ _ => by exact by exact dts_one (by exact dt_cmp (by exact op_neA hr.units) ne_u (by exact de_callB (by exact call_reprD hgd hr.units) reprD_u (by exact da_cons (by exact de_lst false (by exact da_cons (by exact de_ef (cs := [15, 16]) T.xv_15a16_one (by exact de_var 11 (pv 11))) (by exact da_cons (by exact de_ef (cs := [15, 16]) T.xv_15a16_other (by exact de_var 11 (pv 11))) (da_nil)))) (da_nil)) T.n_repr) (by exact de_callB (by exact call_reprD hgd hr.units) reprD_u (by exact da_cons (by exact de_lst false (by exact da_cons (by exact de_var 3 (pv 3)) (by exact da_cons (by exact de_var 4 (pv 4)) (da_nil)))) (da_nil)) T.n_repr) (nomark _))) (fun _ _ _ _ _ => by exact by exact de_var 11 (pv 11))) (by exact de_lst false (da_nil)) (nomark _))) (dss_nil)))))))))))
theorem sc_the_law : FnScope ["_law_script", "_law_box", "_law_things", "_law_turn", "_law_errors", "_law_error", "_law_thing", "_law_far"] ["_law_script"] (defScope s_the_law) := ⟨rfl, rfl, rfl, by decide +kernel, rfl, by decide +kernel, by decide +kernel⟩
abbrev Ow_the_law (P : Program) (w : World) (K : PySem.W.Frag) (mg : Str → Option Value) (base : Heap) (cl : Nat → Addr) : Prop := Own P w K mg base (gg K mg cl) 4 "law" ["_law_script"] [] F_the_law
theorem ok_the_law {f : Addr} {fd : FuncData} (F : Fun K "law" "law" s_the_law f fd) (T : Txt P K mg cl) (O_law_bare : Ow_law_bare P w K mg base cl) (O_law_draw : Ow_law_draw P w K mg base cl) (O_law_fields_right : Ow_law_fields_right P w K mg base cl) (O_law_kinds : Ow_law_kinds P w K mg base cl) (O_law_names : Ow_law_names P w K mg base cl) (O_law_start : Ow_law_start P w K mg base cl) (O_law_two : Ow_law_two P w K mg base cl) (O_law_values : Ow_law_values P w K mg base cl) (O_law_very_right : Ow_law_very_right P w K mg base cl) : FnG P w K mg base 4 f fd ["_law_script"] (SpF (gg K mg cl) 1 F_the_law) := by
  refine fnG_of true F sc_the_law fun cdv A outer s H E hr hgd => ?_
  have tk := takes_of (X := bodyX P w K mg base ["_law_script", "_law_box", "_law_things", "_law_turn", "_law_errors", "_law_error", "_law_thing", "_law_far"] "law" s_the_law f cdv A outer s H E) (E := E) rfl rfl rfl rfl
  have pass := passes_of (X := bodyX P w K mg base ["_law_script", "_law_box", "_law_things", "_law_turn", "_law_errors", "_law_error", "_law_thing", "_law_far"] "law" s_the_law f cdv A outer s H E) rfl
  have sc := sc_the_law
  exact by exact dss_cons (by exact ds_set 1 sc.nd (by exact own_call O_law_start hr (by decide) hgd tk (by exact da_cons (by exact de_var 0 (pv 0)) (da_nil)) (ma_lenS ma_len0))) (by exact dss_cons (by exact ds_set 2 sc.nd (by exact de_lst false (by exact da_cons (by exact de_c pe_non) (by exact da_cons (by exact de_c pe_bl) (by exact da_cons (by exact de_bin op_pow pow_u (by exact de_c pe_int) (by exact de_c pe_int)) (by exact da_cons (by exact de_c pe_str) (by exact da_cons (by exact de_lst false (by exact da_cons (by exact de_c pe_int) (by exact da_cons (by exact de_lst false (by exact da_cons (by exact de_c pe_int) (da_nil))) (da_nil)))) (by exact da_cons (by exact de_tup (by exact da_cons (by exact de_c pe_int) (by exact da_cons (by exact de_c pe_str) (da_nil)))) (by exact da_cons (by exact de_dict 0 (by exact dps_cons (by exact de_c pe_str) (by exact de_c pe_int) (dps_nil))) (by exact da_cons (by exact de_neg (by exact de_c pe_int)) (by exact da_cons (by exact de_c pe_str) (by exact da_cons (by exact de_dictT (by have := hr.units; omega) (by exact dps_cons (by exact de_tup (by exact da_cons (by exact de_c pe_str) (by exact da_cons (by exact de_c pe_str) (da_nil)))) (by exact de_c pe_non) (dps_nil))) (da_nil))))))))))))) (by exact dss_cons (by exact ds_for pass rfl (by exact di_range1 T.n_range (by exact da_cons (by exact de_c pe_int) (da_nil))) (dg_name 3 sc.nd) (by exact dss_cons (by exact ds_par 6 7 rfl sc.nd (by exact da_cons (by exact de_ix rfl (by exact de_var 2 (pv 2)) (by exact own_call O_law_draw hr (by decide) hgd tk (by exact da_cons (by exact de_var 1 (pv 1)) (by exact da_cons (by exact de_c pe_int) (da_nil))) (ma_lenS (ma_lenS ma_len0)))) (by exact da_cons (by exact de_ix rfl (by exact de_var 2 (pv 2)) (by exact own_call O_law_draw hr (by decide) hgd tk (by exact da_cons (by exact de_var 1 (pv 1)) (by exact da_cons (by exact de_c pe_int) (da_nil))) (ma_lenS (ma_lenS ma_len0)))) (da_nil)))) (by exact dss_cons (by exact ds_if (by exact dt_not (by exact dt_of rfl (by exact own_call O_law_fields_right hr (by decide) hgd tk (by exact da_cons (by exact de_var 6 (pv 6)) (by exact da_cons (by exact de_var 7 (pv 7)) (da_nil))) (ma_lenS (ma_lenS ma_len0))))) (by exact dss_cons (by exact ds_ret (by exact de_c pe_bl)) (dss_nil)) (dss_nil)) (by exact dss_cons (by exact ds_set 4 sc.nd (by exact de_bin op_addA (add_u (mt := false)) (by exact de_bin op_addA (add_u (mt := false)) (by exact de_bin op_addA (add_u (mt := false)) (by exact own_call0 O_law_bare hr (by decide) hgd tk) (by exact own_call O_law_two hr (by decide) hgd tk (by exact da_cons (by exact de_var 6 (pv 6)) (by exact da_cons (by exact de_var 7 (pv 7)) (da_nil))) (ma_lenS (ma_lenS ma_len0)))) (by exact own_call O_law_values hr (by decide) hgd tk (by exact da_cons (by exact de_var 6 (pv 6)) (da_nil)) (ma_lenS ma_len0))) (by exact own_call O_law_names hr (by decide) hgd tk (by exact da_cons (by exact de_var 6 (pv 6)) (da_nil)) (ma_lenS ma_len0)))) (by exact dss_cons (by exact ds_for pass rfl (by exact di_list rfl (by exact de_bin op_addA (add_u (mt := false)) (by exact de_var 4 (pv 4)) (by exact de_lst false (by exact da_cons (by exact de_err (i := 7) (j := 0) T.v_BadCount (hr.mono (by decide)) (by exact da_cons (by exact de_var 6 (pv 6)) (da_nil)) (ma_lenS ma_len0)) (by exact da_cons (by exact de_err (i := 8) (j := 0) T.v_BadKey (hr.mono (by decide)) (by exact da_cons (by exact de_var 6 (pv 6)) (da_nil)) (ma_lenS ma_len0)) (by exact da_cons (by exact de_err (i := 9) (j := 0) T.v_BadSum (hr.mono (by decide)) (by exact da_cons (by exact de_var 6 (pv 6)) (da_nil)) (ma_lenS ma_len0)) (by exact da_cons (by exact de_err (i := 10) (j := 0) T.v_NoWeight (hr.mono (by decide)) (by exact da_cons (by exact de_var 6 (pv 6)) (da_nil)) (ma_lenS ma_len0)) (da_nil)))))))) (dg_name 5 sc.nd) (by exact dss_cons (by exact ds_if (by exact dt_w (by exact dw_or (by exact dt_cmp (by exact op_neA hr.units) ne_u (by exact own_call O_law_kinds hr (by decide) hgd tk (by exact da_cons (by exact de_var 5 (pv 5)) (da_nil)) (ma_lenS ma_len0)) (by exact de_c pe_int) (nomark _)) (by exact dw_or (by exact dt_not (by exact dt_of rfl (by exact de_isE T.ie_NewsError (by exact de_var 5 (pv 5)) T.n_isinstance T.n_NewsError))) (by exact dw_or1 (by exact dt_not (by exact dt_of rfl (by exact de_isEB T.ie_ValueError (by exact de_var 5 (pv 5)) T.n_isinstance T.n_ValueError))))))) (by exact dss_cons (by exact ds_ret (by exact de_c pe_bl)) (dss_nil)) (dss_nil)) (dss_nil))) (dss_nil)))))) (by exact dss_cons (by exact ds_ret (by exact own_call O_law_very_right hr (by decide) hgd tk (by exact da_cons (by exact de_var 1 (pv 1)) (da_nil)) (ma_lenS ma_len0))) (dss_nil))))
end
theorem sx_BadCount : ErrS1 (memS 8 0) "BadCount.__init__" "count" "count" := ⟨⟨_, _, _, _, _, _, _, _, _, _, rfl, fun _ _ _ _ => ⟨_, rfl⟩⟩, rfl, by decide, by decide, rfl, rfl, rfl, by decide +kernel, by decide +kernel, by decide +kernel, by decide +kernel, by decide +kernel, fun _ _ _ _ => rfl, fun _ _ _ _ _ _ _ us hl => match us, hl with | [_, _], _ => rfl⟩
theorem sx_BadKey : ErrS1 (memS 9 0) "BadKey.__init__" "key" "key" := ⟨⟨_, _, _, _, _, _, _, _, _, _, rfl, fun _ _ _ _ => ⟨_, rfl⟩⟩, rfl, by decide, by decide, rfl, rfl, rfl, by decide +kernel, by decide +kernel, by decide +kernel, by decide +kernel, by decide +kernel, fun _ _ _ _ => rfl, fun _ _ _ _ _ _ _ us hl => match us, hl with | [_, _], _ => rfl⟩
theorem sx_BadName : ErrS1 (memS 5 0) "BadName.__init__" "name" "name" := ⟨⟨_, _, _, _, _, _, _, _, _, _, rfl, fun _ _ _ _ => ⟨_, rfl⟩⟩, rfl, by decide, by decide, rfl, rfl, rfl, by decide +kernel, by decide +kernel, by decide +kernel, by decide +kernel, by decide +kernel, fun _ _ _ _ => rfl, fun _ _ _ _ _ _ _ us hl => match us, hl with | [_, _], _ => rfl⟩
theorem sx_BadNumber : ErrS1 (memS 4 0) "BadNumber.__init__" "value" "value" := ⟨⟨_, _, _, _, _, _, _, _, _, _, rfl, fun _ _ _ _ => ⟨_, rfl⟩⟩, rfl, by decide, by decide, rfl, rfl, rfl, by decide +kernel, by decide +kernel, by decide +kernel, by decide +kernel, by decide +kernel, fun _ _ _ _ => rfl, fun _ _ _ _ _ _ _ us hl => match us, hl with | [_, _], _ => rfl⟩
theorem sx_BadPairs : ErrS1 (memS 15 0) "BadPairs.__init__" "value" "value" := ⟨⟨_, _, _, _, _, _, _, _, _, _, rfl, fun _ _ _ _ => ⟨_, rfl⟩⟩, rfl, by decide, by decide, rfl, rfl, rfl, by decide +kernel, by decide +kernel, by decide +kernel, by decide +kernel, by decide +kernel, fun _ _ _ _ => rfl, fun _ _ _ _ _ _ _ us hl => match us, hl with | [_, _], _ => rfl⟩
theorem sx_BadPlan : ErrS1 (memS 14 0) "BadPlan.__init__" "value" "value" := ⟨⟨_, _, _, _, _, _, _, _, _, _, rfl, fun _ _ _ _ => ⟨_, rfl⟩⟩, rfl, by decide, by decide, rfl, rfl, rfl, by decide +kernel, by decide +kernel, by decide +kernel, by decide +kernel, by decide +kernel, fun _ _ _ _ => rfl, fun _ _ _ _ _ _ _ us hl => match us, hl with | [_, _], _ => rfl⟩
theorem sx_BadRow : ErrS1 (memS 12 0) "BadRow.__init__" "value" "value" := ⟨⟨_, _, _, _, _, _, _, _, _, _, rfl, fun _ _ _ _ => ⟨_, rfl⟩⟩, rfl, by decide, by decide, rfl, rfl, rfl, by decide +kernel, by decide +kernel, by decide +kernel, by decide +kernel, by decide +kernel, fun _ _ _ _ => rfl, fun _ _ _ _ _ _ _ us hl => match us, hl with | [_, _], _ => rfl⟩
theorem sx_BadSum : ErrS1 (memS 10 0) "BadSum.__init__" "total" "total" := ⟨⟨_, _, _, _, _, _, _, _, _, _, rfl, fun _ _ _ _ => ⟨_, rfl⟩⟩, rfl, by decide, by decide, rfl, rfl, rfl, by decide +kernel, by decide +kernel, by decide +kernel, by decide +kernel, by decide +kernel, fun _ _ _ _ => rfl, fun _ _ _ _ _ _ _ us hl => match us, hl with | [_, _], _ => rfl⟩
theorem sx_BadTable : ErrS1 (memS 13 0) "BadTable.__init__" "value" "value" := ⟨⟨_, _, _, _, _, _, _, _, _, _, rfl, fun _ _ _ _ => ⟨_, rfl⟩⟩, rfl, by decide, by decide, rfl, rfl, rfl, by decide +kernel, by decide +kernel, by decide +kernel, by decide +kernel, by decide +kernel, fun _ _ _ _ => rfl, fun _ _ _ _ _ _ _ us hl => match us, hl with | [_, _], _ => rfl⟩
theorem sx_DuplicateName : ErrS1 (memS 6 0) "DuplicateName.__init__" "name" "name" := ⟨⟨_, _, _, _, _, _, _, _, _, _, rfl, fun _ _ _ _ => ⟨_, rfl⟩⟩, rfl, by decide, by decide, rfl, rfl, rfl, by decide +kernel, by decide +kernel, by decide +kernel, by decide +kernel, by decide +kernel, fun _ _ _ _ => rfl, fun _ _ _ _ _ _ _ us hl => match us, hl with | [_, _], _ => rfl⟩
theorem sx_NoNews : ErrS1 (memS 18 0) "NoNews.__init__" "value" "value" := ⟨⟨_, _, _, _, _, _, _, _, _, _, rfl, fun _ _ _ _ => ⟨_, rfl⟩⟩, rfl, by decide, by decide, rfl, rfl, rfl, by decide +kernel, by decide +kernel, by decide +kernel, by decide +kernel, by decide +kernel, fun _ _ _ _ => rfl, fun _ _ _ _ _ _ _ us hl => match us, hl with | [_, _], _ => rfl⟩
theorem sx_NoWeight : ErrS1 (memS 11 0) "NoWeight.__init__" "state" "state" := ⟨⟨_, _, _, _, _, _, _, _, _, _, rfl, fun _ _ _ _ => ⟨_, rfl⟩⟩, rfl, by decide, by decide, rfl, rfl, rfl, by decide +kernel, by decide +kernel, by decide +kernel, by decide +kernel, by decide +kernel, fun _ _ _ _ => rfl, fun _ _ _ _ _ _ _ us hl => match us, hl with | [_, _], _ => rfl⟩
theorem sx_UnknownName : ErrS1 (memS 7 0) "UnknownName.__init__" "name" "name" := ⟨⟨_, _, _, _, _, _, _, _, _, _, rfl, fun _ _ _ _ => ⟨_, rfl⟩⟩, rfl, by decide, by decide, rfl, rfl, rfl, by decide +kernel, by decide +kernel, by decide +kernel, by decide +kernel, by decide +kernel, fun _ _ _ _ => rfl, fun _ _ _ _ _ _ _ us hl => match us, hl with | [_, _], _ => rfl⟩
theorem sx_UnlikeStates : ErrS2 (memS 16 0) "UnlikeStates.__init__" "one" "one" "other" "other" := ⟨⟨_, _, _, _, _, _, _, _, _, _, _, _, _, _, _, rfl, fun _ _ _ _ => ⟨_, rfl⟩⟩, rfl, by decide, by decide, by decide, by decide, by decide, rfl, rfl, rfl, by decide +kernel, by decide +kernel, by decide +kernel, by decide +kernel, by decide +kernel, by decide +kernel, fun _ _ _ _ => rfl, fun _ _ _ _ _ _ _ us hl => match us, hl with | [_, _, _], _ => rfl⟩
theorem sx_UnlikeWeights : ErrS2 (memS 17 0) "UnlikeWeights.__init__" "one" "one" "other" "other" := ⟨⟨_, _, _, _, _, _, _, _, _, _, _, _, _, _, _, rfl, fun _ _ _ _ => ⟨_, rfl⟩⟩, rfl, by decide, by decide, by decide, by decide, by decide, rfl, rfl, rfl, by decide +kernel, by decide +kernel, by decide +kernel, by decide +kernel, by decide +kernel, by decide +kernel, fun _ _ _ _ => rfl, fun _ _ _ _ _ _ _ us hl => match us, hl with | [_, _, _], _ => rfl⟩
end K01
namespace K01
open PySem PySem.Spec PyProof.Rows L2 Mi
theorem addL {xs ys : List U} (h : xs.length + ys.length ≤ 1000) (c : Cs) : fAdd false (.lst xs) (.lst ys) c = some (.lst (xs ++ ys), c) := by
  have hz := sizeLine_eq
  have hl : xs.length + ys.length ≤ sizeLine := by omega
  simp [fAdd, lviewM, hl, mkL]
theorem fin_keep (c c' : Cs) (u : U) : finF false c (.ret u c') = .ok u c' := by simp [finF]
/-! the errors -/
def e1 (C : Nat) (f : Str) (u : U) : U := .err C [f] [u]
def e2 (C : Nat) (u v : U) : U := .err C ["other", "one"] [v, u]
def vals (u : U) : List U := [3, 3, 11, 11, 12, 12, 13, 13, 14, 14, 17, 17].map fun C => e1 C "value" u
def nms (u : U) : List U := [4, 4, 5, 5, 6, 6].map fun C => e1 C "name" u
def two (u v : U) : List U := [15, 15, 16, 16].map fun C => e2 C u v
def bare : List U := [1, 2, 18, 19].map fun C => .err C [] []
theorem sel0 (u : U) : sel [0] [u] = [u] := rfl
theorem sel10 (u v : U) : sel [1, 0] [v, u] = [u, v] := rfl
theorem rev1 (u : U) : [u].reverse = [u] := rfl
theorem rev2 (u v : U) : [u, v].reverse = [v, u] := rfl
theorem values_ok (u : U) (c : Cs) : F_law_values [u] c = .ok (.lst (vals u)) c := by
  unfold F_law_values B_law_values mkF
  have e : startU 2 [u] = [some u, none] := rfl
  rw [e]
  have a1 := fun c => addL (xs := [e1 3 "value" u, e1 3 "value" u, e1 11 "value" u, e1 11 "value" u, e1 12 "value" u]) (ys := [e1 12 "value" u, e1 13 "value" u, e1 13 "value" u, e1 14 "value" u]) (by simp) c
  have a2 := fun c => addL (xs := [e1 3 "value" u, e1 3 "value" u, e1 11 "value" u, e1 11 "value" u, e1 12 "value" u] ++ [e1 12 "value" u, e1 13 "value" u, e1 13 "value" u, e1 14 "value" u]) (ys := [e1 14 "value" u, e1 17 "value" u, e1 17 "value" u]) (by simp) c
  unfold e1 at a1 a2
  simp only [msCons, msNil, msSet, msRet, msRetN, msExpr, msIf, msPar, mFn, mFnK, maCons, maNil, mVar, mC, m1, m2, mLst, mTup, mCall, mB, mTru, mtNot, mtAnd, mtOr, mM1, ok_bind, ok_ok, ok_ofO, sx_bindS, sx_nx, sx_ret, sx_seq, bind_ok, bindS_ok, seq_nx, seq_ret, ofO_some, List.getElem?_cons_succ, List.getElem?_cons_zero, List.set_cons_succ, List.set_cons_zero, List.append_nil, List.nil_append, List.length_cons, List.length_nil, mkL, Bool.false_eq_true, if_false, if_true, reduceIte, Bool.not_true, Bool.not_false, mErr, mErrK, sel0, rev1, Nat.reduceAdd, Nat.reduceLeDiff, a1, a2, fin_keep]
  rfl
theorem names_ok (u : U) (c : Cs) : F_law_names [u] c = .ok (.lst (nms u)) c := by
  unfold F_law_names B_law_names mkF
  have e : startU 2 [u] = [some u, none] := rfl
  rw [e]
  have a1 := fun c => addL (xs := [e1 4 "name" u, e1 4 "name" u, e1 5 "name" u, e1 5 "name" u]) (ys := [e1 6 "name" u, e1 6 "name" u]) (by simp) c
  unfold e1 at a1
  simp only [msCons, msNil, msSet, msRet, msRetN, msExpr, msIf, msPar, mFn, mFnK, maCons, maNil, mVar, mC, m1, m2, mLst, mTup, mCall, mB, mTru, mtNot, mtAnd, mtOr, mM1, ok_bind, ok_ok, ok_ofO, sx_bindS, sx_nx, sx_ret, sx_seq, bind_ok, bindS_ok, seq_nx, seq_ret, ofO_some, List.getElem?_cons_succ, List.getElem?_cons_zero, List.set_cons_succ, List.set_cons_zero, List.append_nil, List.nil_append, List.length_cons, List.length_nil, mkL, Bool.false_eq_true, if_false, if_true, reduceIte, Bool.not_true, Bool.not_false, mErr, mErrK, sel0, rev1, Nat.reduceAdd, Nat.reduceLeDiff, a1, fin_keep]
  rfl
theorem two_ok (u v : U) (c : Cs) : F_law_two [u, v] c = .ok (.lst (two u v)) c := by
  unfold F_law_two B_law_two mkF
  have e : startU 2 [u, v] = [some u, some v] := rfl
  rw [e]
  simp only [msCons, msNil, msSet, msRet, msRetN, msExpr, msIf, msPar, mFn, mFnK, maCons, maNil, mVar, mC, m1, m2, mLst, mTup, mCall, mB, mTru, mtNot, mtAnd, mtOr, mM1, ok_bind, ok_ok, ok_ofO, sx_bindS, sx_nx, sx_ret, sx_seq, bind_ok, bindS_ok, seq_nx, seq_ret, ofO_some, List.getElem?_cons_succ, List.getElem?_cons_zero, List.set_cons_succ, List.set_cons_zero, List.append_nil, List.nil_append, List.length_cons, List.length_nil, mkL, Bool.false_eq_true, if_false, if_true, reduceIte, Bool.not_true, Bool.not_false, mErr, mErrK, sel10, rev2, Nat.reduceAdd, Nat.reduceLeDiff, fin_keep]
  rfl
theorem bare_ok (c : Cs) : F_law_bare [] c = .ok (.lst bare) c := by
  unfold F_law_bare B_law_bare mkF
  have e : startU 0 [] = ([] : T) := rfl
  simp only [msCons, msNil, msSet, msRet, msRetN, msExpr, msIf, msPar, mFn, mFnK, maCons, maNil, mVar, mC, m1, m2, mLst, mTup, mCall, mB, mTru, mtNot, mtAnd, mtOr, mM1, ok_bind, ok_ok, ok_ofO, sx_bindS, sx_nx, sx_ret, sx_seq, bind_ok, bindS_ok, seq_nx, seq_ret, ofO_some, List.getElem?_cons_succ, List.getElem?_cons_zero, List.set_cons_succ, List.set_cons_zero, List.append_nil, List.nil_append, List.length_cons, List.length_nil, mkL, Bool.false_eq_true, if_false, if_true, reduceIte, Bool.not_true, Bool.not_false, mErr0, Nat.reduceAdd, Nat.reduceLeDiff]
  exact fin_plain (fun k c => frz_lst k _ c) rfl
/-! a comprehension that keeps nothing -/
theorem none_lc {k : Nat} {τ : T} {c : Cs} {mi : MI} {mt : MT} {src : Src} {us : List U} (hi : mi τ c = .ok src c) (hsrc : ∀ acc, src (c ++ [Cell.lst acc]) = some us) (hl : us.length ≤ 10000)
    (ht : ∀ u ∈ us, ∀ acc, mt ((wipeT τ [k]).set k (some u)) (c ++ [Cell.lst acc]) = .ok false (c ++ [Cell.lst acc])) : mLc 0 [k] mi (tName k) mt (mVar k) τ c = .ok (.lst []) c := by
  rw [mLc_pure (c0 := c) src us id (fun _ => false) id hi (fun acc => by rw [List.map_id]; exact hsrc acc) hl]
  · rw [List.filter_eq_nil_iff.mpr (by simp)]
    rw [lcEnd0 (by rfl)]; rfl
  · intro u hu
    exact ⟨_, fun acc => ⟨rfl, ht u hu acc, fun h => by cases h⟩⟩
theorem ef_ok {cs : List Nat} {f : Str} {m : ME} {τ : T} {c c1 : Cs} {C : Nat} {ns : List Str} {xs : List U} {i : Nat} {z : U} (h : m τ c = .ok (.err C ns xs) c1) (hC : C ∈ cs) (hi : ixF f ns = some i) (hz : xs[i]? = some z) : mEf cs f m τ c = .ok z c1 := by
  unfold mEf
  rw [h, bind_ok]
  simp only [hC, if_true, hi, Option.bind_some, hz]
theorem eqT (x : Str) (c : Cs) : fEq true (.str x) (.str x) c = some (.bl false, c) := by simp [fEq]
theorem eqTl (c : Cs) : fEq true (.lst []) (.lst []) c = some (.bl false, c) := by
  rw [fEq_strs0 (xs := []) rfl (by simp)]; rfl
theorem eqFl (c : Cs) : fEq false (.lst []) (.lst []) c = some (.bl true, c) := by
  rw [fEq_strs0 (xs := []) rfl (by simp)]; rfl
theorem ix_value : ixF ("value" : Str) [("value" : Str)] = some 0 := by decide +kernel
theorem ix_name : ixF ("name" : Str) [("name" : Str)] = some 0 := by decide +kernel
theorem ix_count : ixF ("count" : Str) [("count" : Str)] = some 0 := by decide +kernel
theorem ix_key : ixF ("key" : Str) [("key" : Str)] = some 0 := by decide +kernel
theorem ix_total : ixF ("total" : Str) [("total" : Str)] = some 0 := by decide +kernel
theorem ix_state : ixF ("state" : Str) [("state" : Str)] = some 0 := by decide +kernel
theorem ix_one : ixF ("one" : Str) [("other" : Str), ("one" : Str)] = some 1 := by decide +kernel
theorem ix_other : ixF ("other" : Str) [("other" : Str), ("one" : Str)] = some 0 := by decide +kernel
/-- the fields are what was handed in -/
theorem f_lc {k j : Nat} {τ : T} {c : Cs} {mi : MI} {src : Src} {cs : List Nat} {f : Str} {L : List Nat} {u : U} {x : Str} (hi : mi τ c = .ok src c) (hsrc : ∀ acc, src (c ++ [Cell.lst acc]) = some (L.map fun C => e1 C f u)) (hl : L.length ≤ 10000)
    (hL : ∀ C ∈ L, C ∈ cs) (hx : ixF f [f] = some 0) (hr : ∀ acc, fReprD [u] (c ++ [Cell.lst acc]) = some (.str x, c ++ [Cell.lst acc])) (hj : τ[j]? = some (some (.str x))) (hk : k < τ.length) (hjk : j ≠ k) :
    mLc 0 [k] mi (tName k) (mB (m2 (fEq true) (mCall fReprD (maCons (mEf cs f (mVar k)) (maNil))) (mVar j))) (mVar k) τ c = .ok (.lst []) c := by
  refine none_lc hi hsrc (by rw [List.length_map]; exact hl) fun w hw acc => ?_
  obtain ⟨C, hC, rfl⟩ := List.mem_map.mp hw
  have h1 : mVar k ((wipeT τ [k]).set k (some (e1 C f u))) (c ++ [Cell.lst acc]) = .ok (e1 C f u) (c ++ [Cell.lst acc]) := by
    unfold mVar
    rw [List.getElem?_set_self (by simpa [wipeT] using hk)]
  have h2 : mVar j ((wipeT τ [k]).set k (some (e1 C f u))) (c ++ [Cell.lst acc]) = .ok (.str x) (c ++ [Cell.lst acc]) := by
    unfold mVar
    rw [List.getElem?_set_ne (Ne.symm hjk)]
    simp only [wipeT]
    rw [List.getElem?_set_ne (Ne.symm hjk), hj]
  have h3 := ef_ok (cs := cs) (f := f) (z := u) h1 (hL C hC) hx rfl
  simp only [mB, m2, mCall, maCons, maNil, h3, h2, bind_ok, hr, ofO_some, eqT]
theorem two_lc {k : Nat} {τ : T} {c : Cs} {mi : MI} {src : Src} {u v : U} {x : Str} {ma mb : ME} (hi : mi τ c = .ok src c) (hsrc : ∀ acc, src (c ++ [Cell.lst acc]) = some (two u v))
    (hr : ∀ acc, fReprD [.lst [u, v]] (c ++ [Cell.lst acc]) = some (.str x, c ++ [Cell.lst acc])) (hk : k < τ.length)
    (ha : ∀ w c, ma ((wipeT τ [k]).set k (some w)) c = .ok u c) (hb : ∀ w c, mb ((wipeT τ [k]).set k (some w)) c = .ok v c) :
    mLc 0 [k] mi (tName k) (mB (m2 (fEq true) (mCall fReprD (maCons (mLst false (maCons (mEf [15, 16] "one" (mVar k)) (maCons (mEf [15, 16] "other" (mVar k)) (maNil)))) (maNil))) (mCall fReprD (maCons (mLst false (maCons ma (maCons mb (maNil)))) (maNil))))) (mVar k) τ c = .ok (.lst []) c := by
  refine none_lc hi hsrc (by show 4 ≤ 10000; decide) fun w hw acc => ?_
  obtain ⟨C, hC, rfl⟩ := List.mem_map.mp hw
  have hC2 : C ∈ [15, 16] := by
    simp only [List.mem_cons, List.not_mem_nil, or_false] at hC ⊢
    omega
  have h1 : mVar k ((wipeT τ [k]).set k (some (e2 C u v))) (c ++ [Cell.lst acc]) = .ok (e2 C u v) (c ++ [Cell.lst acc]) := by
    unfold mVar
    rw [List.getElem?_set_self (by simpa [wipeT] using hk)]
  have h3 := ef_ok (cs := [15, 16]) (f := "one") (z := u) h1 hC2 ix_one rfl
  have h4 := ef_ok (cs := [15, 16]) (f := "other") (z := v) h1 hC2 ix_other rfl
  simp only [mB, m2, mCall, maCons, maNil, mLst, mkL, h3, h4, ha, hb, bind_ok, hr, ofO_some, eqT, List.length_cons, List.length_nil, Nat.reduceAdd, Nat.reduceLeDiff, if_true, Bool.false_eq_true, if_false]
/-! texts -/
def okd (d : PyData) : Bool := decide (d.showable = true ∧ d.depth ≤ 40 ∧ d.shown.length ≤ 100000)
theorem rep {u : U} {d : PyData} {c : Cs} (h : pdX 8 c u = some d) (k : okd d = true) : fReprD [u] c = some (.str d.shown, c) := by
  unfold fReprD
  simp only [h, Option.bind_some]
  rw [if_pos (of_decide_eq_true k)]
theorem pdX_lst (n : Nat) (c : Cs) (xs : List U) : pdX (n + 1) c (.lst xs) = (pdL (pdX n c) xs).map .list := rfl
theorem pd2 {u v : U} {d e : PyData} {c : Cs} (h : pdX 7 c u = some d) (k : pdX 7 c v = some e) : pdX 8 c (.lst [u, v]) = some (.list [d, e]) := by
  rw [pdX_lst]; simp only [pdL, h, k, Option.bind_some, Option.map_some]
theorem pd3 {u v w : U} {d e f : PyData} {c : Cs} (h : pdX 7 c u = some d) (k : pdX 7 c v = some e) (l : pdX 7 c w = some f) : pdX 8 c (.lst [u, v, w]) = some (.list [d, e, f]) := by
  rw [pdX_lst]; simp only [pdL, h, k, l, Option.bind_some, Option.map_some]
theorem pd4 {u v w z : U} {d e f i : PyData} {c : Cs} (h : pdX 7 c u = some d) (k : pdX 7 c v = some e) (l : pdX 7 c w = some f) (m : pdX 7 c z = some i) : pdX 8 c (.lst [u, v, w, z]) = some (.list [d, e, f, i]) := by
  rw [pdX_lst]; simp only [pdL, h, k, l, m, Option.bind_some, Option.map_some]
def things : List (U × PyData) := [(.non, .none), (.bl true, .bool true), (.int (10 ^ 30), .int (10 ^ 30)), (.str ("a b" : String), .str ("a b" : String)), (.lst [.int 1, .lst [.int 2]], .list [.int 1, .list [.int 2]]), (.tup [.int 1, .str ("x" : String)], .tuple [.int 1, .str ("x" : String)]),
  (.dK [.inr ("a" : String)] [.int 1], .dict [(.str ("a" : String), .int 1)]), (.int (-5), .int (-5)), (.str ("" : String), .str ("" : String)), (.dT [[.inr ("a" : String), .inr ("b" : String)]] [.non], .dict [(.tuple [.str ("a" : String), .str ("b" : String)], .none)])]
theorem things_pd : ∀ p ∈ things, ∀ c, pdX 7 c p.1 = some p.2 ∧ pdX 8 c p.1 = some p.2 := by
  intro p hp c
  simp only [things, List.mem_cons, List.not_mem_nil, or_false] at hp
  rcases hp with rfl | rfl | rfl | rfl | rfl | rfl | rfl | rfl | rfl | rfl <;> exact ⟨rfl, rfl⟩
theorem things_ok : (things.all fun p => okd p.2 && okd (.list [p.2, p.2]) && okd (.list [p.2, p.2, p.2]) && things.all fun q => okd (.list [p.2, q.2])) = true := by decide +kernel
end K01
namespace K01
open PySem PySem.Spec PyProof.Rows L2 Mi
theorem isE_ok {ti : List (Nat × Bool)} {m : ME} {τ : T} {c c1 : Cs} {C : Nat} {ns : List Str} {xs : List U} {b : Bool} (h : m τ c = .ok (.err C ns xs) c1) (hl : List.lookup C ti = some b) : mIsE ti m τ c = .ok (.bl b) c1 := by
  unfold mIsE
  rw [h, bind_ok]
  simp only [hl]
def ids : List Nat := [1, 2, 3, 4, 5, 6, 7, 8, 9, 10, 11, 12, 13, 14, 15, 16, 17, 18, 19]
def idL : List Nat := [1, 2, 18, 19, 3, 11, 12, 13, 14, 17, 4, 5, 6, 7, 8, 9, 10, 15, 16]
theorem cnt : ∀ C ∈ ids, ((idL.map fun i => decide (C = i)).filter id).length = 1 := by decide
theorem lk1 : ∀ C ∈ ids, List.lookup C [(0, false), (1, true), (2, false), (3, false), (4, false), (5, false), (6, false), (7, false), (8, false), (9, false), (10, false), (11, false), (12, false), (13, false), (14, false), (15, false), (16, false), (17, false), (18, false), (19, false)] = some (decide (C = 1)) := by decide
theorem lk2 : ∀ C ∈ ids, List.lookup C [(0, false), (1, false), (2, true), (3, false), (4, false), (5, false), (6, false), (7, false), (8, false), (9, false), (10, false), (11, false), (12, false), (13, false), (14, false), (15, false), (16, false), (17, false), (18, false), (19, false)] = some (decide (C = 2)) := by decide
theorem lk18 : ∀ C ∈ ids, List.lookup C [(0, false), (1, false), (2, false), (3, false), (4, false), (5, false), (6, false), (7, false), (8, false), (9, false), (10, false), (11, false), (12, false), (13, false), (14, false), (15, false), (16, false), (17, false), (18, true), (19, false)] = some (decide (C = 18)) := by decide
theorem lk19 : ∀ C ∈ ids, List.lookup C [(0, false), (1, false), (2, false), (3, false), (4, false), (5, false), (6, false), (7, false), (8, false), (9, false), (10, false), (11, false), (12, false), (13, false), (14, false), (15, false), (16, false), (17, false), (18, false), (19, true)] = some (decide (C = 19)) := by decide
theorem lk3 : ∀ C ∈ ids, List.lookup C [(0, false), (1, false), (2, false), (3, true), (4, false), (5, false), (6, false), (7, false), (8, false), (9, false), (10, false), (11, false), (12, false), (13, false), (14, false), (15, false), (16, false), (17, false), (18, false), (19, false)] = some (decide (C = 3)) := by decide
theorem lk11 : ∀ C ∈ ids, List.lookup C [(0, false), (1, false), (2, false), (3, false), (4, false), (5, false), (6, false), (7, false), (8, false), (9, false), (10, false), (11, true), (12, false), (13, false), (14, false), (15, false), (16, false), (17, false), (18, false), (19, false)] = some (decide (C = 11)) := by decide
theorem lk12 : ∀ C ∈ ids, List.lookup C [(0, false), (1, false), (2, false), (3, false), (4, false), (5, false), (6, false), (7, false), (8, false), (9, false), (10, false), (11, false), (12, true), (13, false), (14, false), (15, false), (16, false), (17, false), (18, false), (19, false)] = some (decide (C = 12)) := by decide
theorem lk13 : ∀ C ∈ ids, List.lookup C [(0, false), (1, false), (2, false), (3, false), (4, false), (5, false), (6, false), (7, false), (8, false), (9, false), (10, false), (11, false), (12, false), (13, true), (14, false), (15, false), (16, false), (17, false), (18, false), (19, false)] = some (decide (C = 13)) := by decide
theorem lk14 : ∀ C ∈ ids, List.lookup C [(0, false), (1, false), (2, false), (3, false), (4, false), (5, false), (6, false), (7, false), (8, false), (9, false), (10, false), (11, false), (12, false), (13, false), (14, true), (15, false), (16, false), (17, false), (18, false), (19, false)] = some (decide (C = 14)) := by decide
theorem lk17 : ∀ C ∈ ids, List.lookup C [(0, false), (1, false), (2, false), (3, false), (4, false), (5, false), (6, false), (7, false), (8, false), (9, false), (10, false), (11, false), (12, false), (13, false), (14, false), (15, false), (16, false), (17, true), (18, false), (19, false)] = some (decide (C = 17)) := by decide
theorem lk4 : ∀ C ∈ ids, List.lookup C [(0, false), (1, false), (2, false), (3, false), (4, true), (5, false), (6, false), (7, false), (8, false), (9, false), (10, false), (11, false), (12, false), (13, false), (14, false), (15, false), (16, false), (17, false), (18, false), (19, false)] = some (decide (C = 4)) := by decide
theorem lk5 : ∀ C ∈ ids, List.lookup C [(0, false), (1, false), (2, false), (3, false), (4, false), (5, true), (6, false), (7, false), (8, false), (9, false), (10, false), (11, false), (12, false), (13, false), (14, false), (15, false), (16, false), (17, false), (18, false), (19, false)] = some (decide (C = 5)) := by decide
theorem lk6 : ∀ C ∈ ids, List.lookup C [(0, false), (1, false), (2, false), (3, false), (4, false), (5, false), (6, true), (7, false), (8, false), (9, false), (10, false), (11, false), (12, false), (13, false), (14, false), (15, false), (16, false), (17, false), (18, false), (19, false)] = some (decide (C = 6)) := by decide
theorem lk7 : ∀ C ∈ ids, List.lookup C [(0, false), (1, false), (2, false), (3, false), (4, false), (5, false), (6, false), (7, true), (8, false), (9, false), (10, false), (11, false), (12, false), (13, false), (14, false), (15, false), (16, false), (17, false), (18, false), (19, false)] = some (decide (C = 7)) := by decide
theorem lk8 : ∀ C ∈ ids, List.lookup C [(0, false), (1, false), (2, false), (3, false), (4, false), (5, false), (6, false), (7, false), (8, true), (9, false), (10, false), (11, false), (12, false), (13, false), (14, false), (15, false), (16, false), (17, false), (18, false), (19, false)] = some (decide (C = 8)) := by decide
theorem lk9 : ∀ C ∈ ids, List.lookup C [(0, false), (1, false), (2, false), (3, false), (4, false), (5, false), (6, false), (7, false), (8, false), (9, true), (10, false), (11, false), (12, false), (13, false), (14, false), (15, false), (16, false), (17, false), (18, false), (19, false)] = some (decide (C = 9)) := by decide
theorem lk10 : ∀ C ∈ ids, List.lookup C [(0, false), (1, false), (2, false), (3, false), (4, false), (5, false), (6, false), (7, false), (8, false), (9, false), (10, true), (11, false), (12, false), (13, false), (14, false), (15, false), (16, false), (17, false), (18, false), (19, false)] = some (decide (C = 10)) := by decide
theorem lk15 : ∀ C ∈ ids, List.lookup C [(0, false), (1, false), (2, false), (3, false), (4, false), (5, false), (6, false), (7, false), (8, false), (9, false), (10, false), (11, false), (12, false), (13, false), (14, false), (15, true), (16, false), (17, false), (18, false), (19, false)] = some (decide (C = 15)) := by decide
theorem lk16 : ∀ C ∈ ids, List.lookup C [(0, false), (1, false), (2, false), (3, false), (4, false), (5, false), (6, false), (7, false), (8, false), (9, false), (10, false), (11, false), (12, false), (13, false), (14, false), (15, false), (16, true), (17, false), (18, false), (19, false)] = some (decide (C = 16)) := by decide
theorem lkA : ∀ C ∈ ids, List.lookup C [(0, true), (1, true), (2, true), (3, true), (4, true), (5, true), (6, true), (7, true), (8, true), (9, true), (10, true), (11, true), (12, true), (13, true), (14, true), (15, true), (16, true), (17, true), (18, true), (19, true)] = some true := by decide
theorem kinds_ok {C : Nat} (hC : C ∈ ids) (ns : List Str) (xs : List U) (c : Cs) : F_law_kinds [.err C ns xs] c = .ok (.int 1) c := by
  unfold F_law_kinds B_law_kinds mkF
  have e : startU 3 [U.err C ns xs] = [some (.err C ns xs), none, none] := rfl
  rw [e]
  have a3 := fun c => addL (xs := [U.bl (decide (C = 1)), U.bl (decide (C = 2)), U.bl (decide (C = 18))]) (ys := [U.bl (decide (C = 19)), U.bl (decide (C = 3)), U.bl (decide (C = 11))]) (by simp) c
  have a6 := fun c => addL (xs := [U.bl (decide (C = 1)), U.bl (decide (C = 2)), U.bl (decide (C = 18)), U.bl (decide (C = 19)), U.bl (decide (C = 3)), U.bl (decide (C = 11))]) (ys := [U.bl (decide (C = 12)), U.bl (decide (C = 13)), U.bl (decide (C = 14))]) (by simp) c
  have a9 := fun c => addL (xs := [U.bl (decide (C = 1)), U.bl (decide (C = 2)), U.bl (decide (C = 18)), U.bl (decide (C = 19)), U.bl (decide (C = 3)), U.bl (decide (C = 11)), U.bl (decide (C = 12)), U.bl (decide (C = 13)), U.bl (decide (C = 14))]) (ys := [U.bl (decide (C = 17)), U.bl (decide (C = 4)), U.bl (decide (C = 5))]) (by simp) c
  have a12 := fun c => addL (xs := [U.bl (decide (C = 1)), U.bl (decide (C = 2)), U.bl (decide (C = 18)), U.bl (decide (C = 19)), U.bl (decide (C = 3)), U.bl (decide (C = 11)), U.bl (decide (C = 12)), U.bl (decide (C = 13)), U.bl (decide (C = 14)), U.bl (decide (C = 17)), U.bl (decide (C = 4)), U.bl (decide (C = 5))]) (ys := [U.bl (decide (C = 6)), U.bl (decide (C = 7)), U.bl (decide (C = 8))]) (by simp) c
  have a15 := fun c => addL (xs := [U.bl (decide (C = 1)), U.bl (decide (C = 2)), U.bl (decide (C = 18)), U.bl (decide (C = 19)), U.bl (decide (C = 3)), U.bl (decide (C = 11)), U.bl (decide (C = 12)), U.bl (decide (C = 13)), U.bl (decide (C = 14)), U.bl (decide (C = 17)), U.bl (decide (C = 4)), U.bl (decide (C = 5)), U.bl (decide (C = 6)), U.bl (decide (C = 7)), U.bl (decide (C = 8))]) (ys := [U.bl (decide (C = 9)), U.bl (decide (C = 10)), U.bl (decide (C = 15))]) (by simp) c
  have aL := fun c => addL (xs := [U.bl (decide (C = 1)), U.bl (decide (C = 2)), U.bl (decide (C = 18)), U.bl (decide (C = 19)), U.bl (decide (C = 3)), U.bl (decide (C = 11)), U.bl (decide (C = 12)), U.bl (decide (C = 13)), U.bl (decide (C = 14)), U.bl (decide (C = 17)), U.bl (decide (C = 4)), U.bl (decide (C = 5)), U.bl (decide (C = 6)), U.bl (decide (C = 7)), U.bl (decide (C = 8)), U.bl (decide (C = 9)), U.bl (decide (C = 10)), U.bl (decide (C = 15))]) (ys := [U.bl (decide (C = 16))]) (by simp) c
  have h1 := lk1 C hC
  have h2 := lk2 C hC
  have h18 := lk18 C hC
  have h19 := lk19 C hC
  have h3 := lk3 C hC
  have h11 := lk11 C hC
  have h12 := lk12 C hC
  have h13 := lk13 C hC
  have h14 := lk14 C hC
  have h17 := lk17 C hC
  have h4 := lk4 C hC
  have h5 := lk5 C hC
  have h6 := lk6 C hC
  have h7 := lk7 C hC
  have h8 := lk8 C hC
  have h9 := lk9 C hC
  have h10 := lk10 C hC
  have h15 := lk15 C hC
  have h16 := lk16 C hC
  have eS : ∀ c, (m2 (fAdd false) (mVar 1) (mLst false (maCons (mIsE [(0, false), (1, false), (2, false), (3, false), (4, false), (5, false), (6, false), (7, false), (8, false), (9, false), (10, false), (11, false), (12, false), (13, false), (14, false), (15, false), (16, true), (17, false), (18, false), (19, false)] (mVar 0)) (maNil)))) [some (.err C ns xs), some (.lst [.bl (decide (C = 1)), .bl (decide (C = 2)), .bl (decide (C = 18)), .bl (decide (C = 19)), .bl (decide (C = 3)), .bl (decide (C = 11)), .bl (decide (C = 12)), .bl (decide (C = 13)), .bl (decide (C = 14)), .bl (decide (C = 17)), .bl (decide (C = 4)), .bl (decide (C = 5)), .bl (decide (C = 6)), .bl (decide (C = 7)), .bl (decide (C = 8)), .bl (decide (C = 9)), .bl (decide (C = 10)), .bl (decide (C = 15))]), none] c = .ok (.lst ((idL.map fun i => decide (C = i)).map .bl)) c := fun c => by
    simp only [msCons, msNil, msSet, msRet, msRetN, msExpr, msIf, msPar, mFn, mFnK, maCons, maNil, mVar, mC, m1, m2, mLst, mTup, mCall, mB, mTru, mtNot, mtAnd, mtOr, mM1, ok_bind, ok_ok, ok_ofO, sx_bindS, sx_nx, sx_ret, sx_seq, bind_ok, bindS_ok, seq_nx, seq_ret, ofO_some, List.getElem?_cons_succ, List.getElem?_cons_zero, List.set_cons_succ, List.set_cons_zero, List.append_nil, List.nil_append, List.length_cons, List.length_nil, mkL, Bool.false_eq_true, if_false, if_true, reduceIte, Bool.not_true, Bool.not_false, mIsE, h1, h2, h18, h19, h3, h11, h12, h13, h14, h17, h4, h5, h6, h7, h8, h9, h10, h15, h16, Nat.reduceAdd, Nat.reduceLeDiff, aL]
    rfl
  have eL : (mLc 0 [2] (miList (m2 (fAdd false) (mVar 1) (mLst false (maCons (mIsE [(0, false), (1, false), (2, false), (3, false), (4, false), (5, false), (6, false), (7, false), (8, false), (9, false), (10, false), (11, false), (12, false), (13, false), (14, false), (15, false), (16, true), (17, false), (18, false), (19, false)] (mVar 0)) (maNil))))) (tName 2) (mTru (mVar 2)) (mVar 2)) [some (.err C ns xs), some (.lst [.bl (decide (C = 1)), .bl (decide (C = 2)), .bl (decide (C = 18)), .bl (decide (C = 19)), .bl (decide (C = 3)), .bl (decide (C = 11)), .bl (decide (C = 12)), .bl (decide (C = 13)), .bl (decide (C = 14)), .bl (decide (C = 17)), .bl (decide (C = 4)), .bl (decide (C = 5)), .bl (decide (C = 6)), .bl (decide (C = 7)), .bl (decide (C = 8)), .bl (decide (C = 9)), .bl (decide (C = 10)), .bl (decide (C = 15))]), none] c = .ok (.lst (((idL.map fun i => decide (C = i)).filter id).map .bl)) c := by
    rw [mLc_pure (c0 := c) (fun c => lview c (.lst ((idL.map fun i => decide (C = i)).map .bl))) (idL.map fun i => decide (C = i)) U.bl id U.bl (by unfold miList; rw [eS]; rfl) (fun acc => rfl) (by show 19 ≤ 10000; decide)]
    · rw [lcEnd0 (noCels_map _ (fun _ => rfl) _)]
    · intro b hb
      exact ⟨[some (.err C ns xs), some (.lst [.bl (decide (C = 1)), .bl (decide (C = 2)), .bl (decide (C = 18)), .bl (decide (C = 19)), .bl (decide (C = 3)), .bl (decide (C = 11)), .bl (decide (C = 12)), .bl (decide (C = 13)), .bl (decide (C = 14)), .bl (decide (C = 17)), .bl (decide (C = 4)), .bl (decide (C = 5)), .bl (decide (C = 6)), .bl (decide (C = 7)), .bl (decide (C = 8)), .bl (decide (C = 9)), .bl (decide (C = 10)), .bl (decide (C = 15))]), some (.bl b)], fun acc => ⟨rfl, by simp only [mTru, mVar, msCons, msNil, msSet, msRet, msRetN, msExpr, msIf, msPar, mFn, mFnK, maCons, maNil, mVar, mC, m1, m2, mLst, mTup, mCall, mB, mTru, mtNot, mtAnd, mtOr, mM1, ok_bind, ok_ok, ok_ofO, sx_bindS, sx_nx, sx_ret, sx_seq, bind_ok, bindS_ok, seq_nx, seq_ret, ofO_some, List.getElem?_cons_succ, List.getElem?_cons_zero, List.set_cons_succ, List.set_cons_zero, List.append_nil, List.nil_append, List.length_cons, List.length_nil, mkL, Bool.false_eq_true, if_false, if_true, reduceIte, Bool.not_true, Bool.not_false, truU, id], fun _ => rfl⟩⟩
  have hn := cnt C hC
  generalize ((idL.map fun i => decide (C = i)).filter id) = bs at *
  have hl : ∀ c, fLen [.lst (bs.map .bl)] c = some (.int 1, c) := fun c => by simp [fLen, lview, hn]
  generalize (mLc 0 [2] (miList (m2 (fAdd false) (mVar 1) (mLst false (maCons (mIsE [(0, false), (1, false), (2, false), (3, false), (4, false), (5, false), (6, false), (7, false), (8, false), (9, false), (10, false), (11, false), (12, false), (13, false), (14, false), (15, false), (16, true), (17, false), (18, false), (19, false)] (mVar 0)) (maNil))))) (tName 2) (mTru (mVar 2)) (mVar 2)) = A at eL ⊢
  simp only [msCons, msNil, msSet, msRet, msRetN, msExpr, msIf, msPar, mFn, mFnK, maCons, maNil, mVar, mC, m1, m2, mLst, mTup, mCall, mB, mTru, mtNot, mtAnd, mtOr, mM1, ok_bind, ok_ok, ok_ofO, sx_bindS, sx_nx, sx_ret, sx_seq, bind_ok, bindS_ok, seq_nx, seq_ret, ofO_some, List.getElem?_cons_succ, List.getElem?_cons_zero, List.set_cons_succ, List.set_cons_zero, List.append_nil, List.nil_append, List.length_cons, List.length_nil, mkL, Bool.false_eq_true, if_false, if_true, reduceIte, Bool.not_true, Bool.not_false, mIsE, h1, h2, h18, h19, h3, h11, h12, h13, h14, h17, h4, h5, h6, h7, h8, h9, h10, h15, h16, Nat.reduceAdd, Nat.reduceLeDiff, a3, a6, a9, a12, a15, List.cons_append, eL, hl]
  exact fin_plain (fun k c => frz_int k _ c) rfl
end K01
namespace K01
open PySem PySem.Spec PyProof.Rows L2 Mi
theorem mul3 (u : U) (c : Cs) : fMul false (.lst [u]) (.int 3) c = some (.lst [u, u, u], c) := by
  have hz := sizeLine_eq
  simp only [fMul, lviewM, Option.bind_some]
  rw [if_pos ⟨by omega, by omega, by simp only [List.length_cons, List.length_nil]; omega⟩]; rfl
theorem mul2 (u : U) (c : Cs) : fMul false (.lst [u]) (.int 2) c = some (.lst [u, u], c) := by
  have hz := sizeLine_eq
  simp only [fMul, lviewM, Option.bind_some]
  rw [if_pos ⟨by omega, by omega, by simp only [List.length_cons, List.length_nil]; omega⟩]; rfl
theorem mul4 (u : U) (c : Cs) : fMul false (.lst [u]) (.int 4) c = some (.lst [u, u, u, u], c) := by
  have hz := sizeLine_eq
  simp only [fMul, lviewM, Option.bind_some]
  rw [if_pos ⟨by omega, by omega, by simp only [List.length_cons, List.length_nil]; omega⟩]; rfl
theorem efE {C : Nat} {f : Str} {m : ME} {τ : T} {c c1 : Cs} {u : U} (h : m τ c = .ok (.err C [f] [u]) c1) (hx : ixF f [f] = some 0) : mEf [C] f m τ c = .ok u c1 := ef_ok (z := u) h List.mem_cons_self hx rfl
theorem in_v : ∀ C ∈ [3, 3, 11, 11, 12, 12, 13, 13, 14, 14, 17, 17], C ∈ [3, 11, 12, 13, 14, 17] := by decide
theorem in_n : ∀ C ∈ [4, 4, 5, 5, 6, 6], C ∈ [4, 5, 6] := by decide
theorem fields_ok {u v : U} {d e : PyData} (hu : ∀ c, pdX 7 c u = some d ∧ pdX 8 c u = some d) (hv : ∀ c, pdX 7 c v = some e) (k1 : okd d = true) (k2 : okd (.list [d, d]) = true) (k3 : okd (.list [d, d, d]) = true) (k4 : okd (.list [d, e]) = true) (c : Cs) :
    F_law_fields_right [u, v] c = .ok (.bl true) c := by
  unfold F_law_fields_right B_law_fields_right mkF
  have e0 : startU 4 [u, v] = [some u, some v, none, none] := rfl
  rw [e0]
  have r1 := fun c => rep (hu c).2 k1
  have r2 := fun c => rep (pd2 (hu c).1 (hu c).1) k2
  have r3 := fun c => rep (pd3 (hu c).1 (hu c).1 (hu c).1) k3
  have r4 := fun c => rep (pd2 (hu c).1 (hv c)) k4
  have l1 : mLc 0 [3] (miList (mFn F_law_values [] (maCons (mVar 0) (maNil)))) (tName 3) (mB (m2 (fEq true) (mCall fReprD (maCons (mEf [3, 11, 12, 13, 14, 17] "value" (mVar 3)) (maNil))) (mVar 2))) (mVar 3) [some u, some v, some (.str d.shown), none] c = .ok (.lst []) c :=
    f_lc (src := fun c => lview c (.lst (vals u))) (L := [3, 3, 11, 11, 12, 12, 13, 13, 14, 14, 17, 17]) (u := u) (by simp [miList, mFn, maCons, maNil, mVar, values_ok, lview]) (fun _ => rfl) (by decide) in_v ix_value (fun acc => r1 _) rfl (by simp) (by decide)
  have l2 : mLc 0 [3] (miList (mFn F_law_names [] (maCons (mVar 0) (maNil)))) (tName 3) (mB (m2 (fEq true) (mCall fReprD (maCons (mEf [4, 5, 6] "name" (mVar 3)) (maNil))) (mVar 2))) (mVar 3) [some u, some v, some (.str d.shown), none] c = .ok (.lst []) c :=
    f_lc (src := fun c => lview c (.lst (nms u))) (L := [4, 4, 5, 5, 6, 6]) (u := u) (by simp [miList, mFn, maCons, maNil, mVar, names_ok, lview]) (fun _ => rfl) (by decide) in_n ix_name (fun acc => r1 _) rfl (by simp) (by decide)
  have l3 : mLc 0 [3] (miList (mFn F_law_two [] (maCons (mVar 0) (maCons (mVar 1) (maNil))))) (tName 3) (mB (m2 (fEq true) (mCall fReprD (maCons (mLst false (maCons (mEf [15, 16] "one" (mVar 3)) (maCons (mEf [15, 16] "other" (mVar 3)) (maNil)))) (maNil))) (mCall fReprD (maCons (mLst false (maCons (mVar 0) (maCons (mVar 1) (maNil)))) (maNil))))) (mVar 3) [some u, some v, some (.str d.shown), none] c = .ok (.lst []) c :=
    two_lc (src := fun c => lview c (.lst (two u v))) (u := u) (v := v) (by simp [miList, mFn, maCons, maNil, mVar, two_ok, lview]) (fun _ => rfl) (fun acc => r4 _) (by simp) (fun _ _ => rfl) (fun _ _ => rfl)
  generalize mLc 0 [3] (miList (mFn F_law_values [] (maCons (mVar 0) (maNil)))) (tName 3) (mB (m2 (fEq true) (mCall fReprD (maCons (mEf [3, 11, 12, 13, 14, 17] "value" (mVar 3)) (maNil))) (mVar 2))) (mVar 3) = A1 at l1 ⊢
  generalize mLc 0 [3] (miList (mFn F_law_names [] (maCons (mVar 0) (maNil)))) (tName 3) (mB (m2 (fEq true) (mCall fReprD (maCons (mEf [4, 5, 6] "name" (mVar 3)) (maNil))) (mVar 2))) (mVar 3) = A2 at l2 ⊢
  generalize mLc 0 [3] (miList (mFn F_law_two [] (maCons (mVar 0) (maCons (mVar 1) (maNil))))) (tName 3) (mB (m2 (fEq true) (mCall fReprD (maCons (mLst false (maCons (mEf [15, 16] "one" (mVar 3)) (maCons (mEf [15, 16] "other" (mVar 3)) (maNil)))) (maNil))) (mCall fReprD (maCons (mLst false (maCons (mVar 0) (maCons (mVar 1) (maNil)))) (maNil))))) (mVar 3) = A3 at l3 ⊢
  have q1 : ∀ (C : Nat) (f : Str) (s : T) (c : Cs), s[0]? = some (some u) → mErr C [f] (maCons (mVar 0) (maNil)) s c = .ok (.err C [f] [u]) c := fun C f s c h => by simp [mErr, maCons, maNil, mVar, h]
  have q2 : ∀ (C : Nat) (f : Str) (s : T) (c : Cs), s[0]? = some (some u) → mErrK C [f] [0] (maCons (mVar 0) (maNil)) s c = .ok (.err C [f] [u]) c := fun C f s c h => by
    simp only [mErrK, maCons, maNil, mVar, h, bind_ok]; rfl
  have p1 : ∀ (x : Option U) (c : Cs), mEf [7] "count" (mErr 7 ["count"] (maCons (mVar 0) (maNil))) [some u, some v, x, none] c = .ok u c := fun x c => efE (q1 7 "count" _ c rfl) ix_count
  have p2 : ∀ (x : Option U) (c : Cs), mEf [7] "count" (mErrK 7 ["count"] [0] (maCons (mVar 0) (maNil))) [some u, some v, x, none] c = .ok u c := fun x c => efE (q2 7 "count" _ c rfl) ix_count
  have p3 : ∀ (x : Option U) (c : Cs), mEf [8] "key" (mErr 8 ["key"] (maCons (mVar 0) (maNil))) [some u, some v, x, none] c = .ok u c := fun x c => efE (q1 8 "key" _ c rfl) ix_key
  have p4 : ∀ (x : Option U) (c : Cs), mEf [8] "key" (mErrK 8 ["key"] [0] (maCons (mVar 0) (maNil))) [some u, some v, x, none] c = .ok u c := fun x c => efE (q2 8 "key" _ c rfl) ix_key
  have p5 : ∀ (x : Option U) (c : Cs), mEf [9] "total" (mErr 9 ["total"] (maCons (mVar 0) (maNil))) [some u, some v, x, none] c = .ok u c := fun x c => efE (q1 9 "total" _ c rfl) ix_total
  have p6 : ∀ (x : Option U) (c : Cs), mEf [9] "total" (mErrK 9 ["total"] [0] (maCons (mVar 0) (maNil))) [some u, some v, x, none] c = .ok u c := fun x c => efE (q2 9 "total" _ c rfl) ix_total
  have p7 : ∀ (x : Option U) (c : Cs), mEf [10] "state" (mErr 10 ["state"] (maCons (mVar 0) (maNil))) [some u, some v, x, none] c = .ok u c := fun x c => efE (q1 10 "state" _ c rfl) ix_state
  have p8 : ∀ (x : Option U) (c : Cs), mEf [10] "state" (mErrK 10 ["state"] [0] (maCons (mVar 0) (maNil))) [some u, some v, x, none] c = .ok u c := fun x c => efE (q2 10 "state" _ c rfl) ix_state
  have n0 : ∀ c, mLst false (maNil) [some u, some v, some (.str d.shown), none] c = .ok (.lst []) c := fun _ => rfl
  simp only [msCons, msNil, msSet, msRet, msRetN, msExpr, msIf, msPar, mFn, mFnK, maCons, maNil, mVar, mC, m1, m2, mLst, mTup, mCall, mB, mTru, mtNot, mtAnd, mtOr, mM1, ok_bind, ok_ok, ok_ofO, sx_bindS, sx_nx, sx_ret, sx_seq, bind_ok, bindS_ok, seq_nx, seq_ret, ofO_some, List.getElem?_cons_succ, List.getElem?_cons_zero, List.set_cons_succ, List.set_cons_zero, List.append_nil, List.nil_append, List.length_cons, List.length_nil, mkL, Bool.false_eq_true, if_false, if_true, reduceIte, Bool.not_true, Bool.not_false, r1, l1, l2, l3, eqTl, eqFl, p1, p2, p3, p4, p5, p6, p7, p8, r2, r3, mul3, mul2, eqT, Nat.reduceAdd, Nat.reduceLeDiff, Nat.zero_le]
  exact fin_plain (fun k c => frz_bl k _ c) rfl
end K01
namespace K01
open PySem PySem.Spec PyProof.Rows L2 Mi
theorem dr {c : Cs} {s K : Nat} {size : Int} {P : U → Cs → Prop} (hS : Sq c s K) (hK : K < 1000000) (hp : 0 < size) (hz : size < 1000000)
    (h : ∀ d c', 0 ≤ d → d < size → Sq c' s (K + 1) → Frm s c c' → P (.int d) c') : Ok (F_law_draw [.cel s, .int size] c) P :=
  ok_draw (A := 48271) (B := 16807) (C := 69621) (D := 40692) (by constructor <;> decide) (by constructor <;> decide) (by constructor <;> decide) (by constructor <;> decide) hS hK hp hz h
theorem dict0 (k : Str) (v : U) (hv : noCel v = true) (τ : T) (c : Cs) : mDict 0 (mpCons (mC (.str k)) (mC v) (mpNil)) τ c = .ok (.dK [.inr k] [v]) c := by
  have hc : (c ++ [Cell.dK [] []])[c.length]? = some (.dK [] []) := by rw [List.getElem?_append_right (Nat.le_refl _)]; simp
  unfold mDict
  simp only [mpCons, mC, mpNil, bind_ok, keysU, keyU, Option.bind_some, Option.map_some, hc]
  simp [noCels, hv]
theorem owned_un {c l : Cs} {s n : Nat} (h : s < c.length) (o : owned (c ++ l) s n) : owned c s n := by
  obtain ⟨xs, e⟩ := o
  rw [List.getElem?_append_left h] at e
  exact ⟨xs, e⟩
theorem dict2 {c : Cs} {s K : Nat} {τ : T} {P : U → Cs → Prop} (hS : Sq c s K) (hK : K < 1000000) (h0 : τ[0]? = some (some (.cel s)))
    (h : ∀ d c', 0 ≤ d → d < 9 → Sq c' s (K + 1) → c'[c.length]? = some (.dK [.inr ("b" : Str)] [.lst [.int d]]) → c.length ≠ s → ¬ owned c' s c.length → (∀ n, n < c.length → n ≠ s → ¬ owned c s n → c'[n]? = c[n]? ∧ ¬ owned c' s n) → P (.cel c.length) c') :
    Ok (mDict 2 (mpCons (mC (.str ("b" : Str))) (mLst false (maCons (mFn F_law_draw [] (maCons (mVar 0) (maCons (mC (.int 9)) (maNil)))) (maNil))) (mpNil)) τ c) P := by
  have h1 : ∀ c, mVar 0 τ c = .ok (.cel s) c := fun c => by simp [mVar, h0]
  unfold mDict
  simp only [mpCons, mpNil, msCons, msNil, msSet, msRet, msRetN, msExpr, msIf, msPar, mFn, mFnK, maCons, maNil, mVar, mC, m1, m2, mLst, mTup, mCall, mB, mTru, mtNot, mtAnd, mtOr, mM1, ok_bind, ok_ok, ok_ofO, sx_bindS, sx_nx, sx_ret, sx_seq, bind_ok, bindS_ok, seq_nx, seq_ret, ofO_some, List.getElem?_cons_succ, List.getElem?_cons_zero, List.set_cons_succ, List.set_cons_zero, List.append_nil, List.nil_append, List.length_cons, List.length_nil, mkL, Bool.false_eq_true, if_false, if_true, reduceIte, Bool.not_true, Bool.not_false, h0, Nat.reduceAdd, Nat.reduceLeDiff]
  have hc : (c ++ [Cell.dK [] []])[c.length]? = some (.dK [] []) := by rw [List.getElem?_append_right (Nat.le_refl _)]; simp
  obtain ⟨n1, n2⟩ := hS.new [Cell.dK [] []] (Nat.le_refl _)
  refine dr (hS.push _) hK (by decide) (by decide) fun d c2 d0 d1 S2 F2 => ?_
  have hl : c.length < (c ++ [Cell.dK [] []]).length := by simp
  have hk := F2.keep c.length hl n1 n2
  rw [hc] at hk
  have n3 : ¬ owned c2 s c.length := fun o => n2 (F2.own _ hl o)
  have hl2 : c.length < c2.length := (List.getElem?_eq_some_iff.mp hk).1
  simp only [keysU, keyU, Option.bind_some, Option.map_some, hk, msCons, msNil, msSet, msRet, msRetN, msExpr, msIf, msPar, mFn, mFnK, maCons, maNil, mVar, mC, m1, m2, mLst, mTup, mCall, mB, mTru, mtNot, mtAnd, mtOr, mM1, ok_bind, ok_ok, ok_ofO, sx_bindS, sx_nx, sx_ret, sx_seq, bind_ok, bindS_ok, seq_nx, seq_ret, ofO_some, List.getElem?_cons_succ, List.getElem?_cons_zero, List.set_cons_succ, List.set_cons_zero, List.append_nil, List.nil_append, List.length_cons, List.length_nil, mkL, Bool.false_eq_true, if_false, if_true, reduceIte, Bool.not_true, Bool.not_false]
  rw [if_pos ⟨by simp, by decide⟩]
  rw [ok_ok]
  refine h d _ d0 d1 (S2.put n1 n3 _) (List.getElem?_set_self hl2) n1 (fun o => n3 (owned_put n1 o)) fun n hn hns ho => ?_
  have hn2 : n < (c ++ [Cell.dK [] []]).length := by simp; omega
  have ho2 : ¬ owned (c ++ [Cell.dK [] []]) s n := fun o => ho (owned_un hS.lt o)
  refine ⟨?_, fun o => ho2 (F2.own _ hn2 (owned_put n1 o))⟩
  rw [List.getElem?_set_ne (by omega), F2.keep n hn2 hns ho2, List.getElem?_append_left hn]
def dA (d : Int) : PyData := .list [.int 1, .list [.int 2], .dict [(.str ("a" : String), .int 3)], .int d]
def dB (d : Int) : PyData := .dict [(.str ("b" : String), .list [.int d]), (.str ("c" : String), .list [.int 5])]
theorem ab_ok : ((List.range 9).all fun n => okd (dA (n : Nat)) && okd (.list [dA (n : Nat), dA (n : Nat), dA (n : Nat), dA (n : Nat)]) && (List.range 9).all fun m => okd (.list [dA (n : Nat), dB (m : Nat)])) = true := by decide +kernel
theorem ab (x y : Int) (x0 : 0 ≤ x) (x1 : x < 9) (y0 : 0 ≤ y) (y1 : y < 9) : okd (dA x) = true ∧ okd (.list [dA x, dA x, dA x, dA x]) = true ∧ okd (.list [dA x, dB y]) = true := by
  obtain ⟨n, rfl⟩ : ∃ n : Nat, x = (n : Int) := ⟨x.toNat, by omega⟩
  obtain ⟨m, rfl⟩ : ∃ m : Nat, y = (m : Int) := ⟨y.toNat, by omega⟩
  have h := List.all_eq_true.mp ab_ok n (List.mem_range.mpr (by omega))
  simp only [Bool.and_eq_true] at h
  exact ⟨h.1.1, h.1.2, List.all_eq_true.mp h.2 m (List.mem_range.mpr (by omega))⟩
theorem very_wp {c : Cs} {s K : Nat} (hS : Sq c s K) (hK : K + 3 < 1000000) : Ok (F_law_very_right [.cel s] c) fun u _ => u = .bl true := by
  unfold F_law_very_right B_law_very_right
  refine ok_fn ?_
  have e : startU 12 [U.cel s] = [some (.cel s), none, none, none, none, none, none, none, none, none, none, none] := rfl
  rw [e]
  have di := dict0 ("a" : Str) (.int 3) rfl
  have hls : s < c.length := hS.lt
  obtain ⟨n1, n2⟩ := hS.new [Cell.lst [.int 1, .lst [.int 2], .dK [.inr ("a" : Str)] [.int 3]]] (Nat.le_refl _)
  have hA : (c ++ [Cell.lst [.int 1, .lst [.int 2], .dK [.inr ("a" : Str)] [.int 3]]])[c.length]? = some (.lst [.int 1, .lst [.int 2], .dK [.inr ("a" : Str)] [.int 3]]) := by rw [List.getElem?_append_right (Nat.le_refl _)]; simp
  have S0 := hS.push [Cell.lst [.int 1, .lst [.int 2], .dK [.inr ("a" : Str)] [.int 3]]]
  have st1 : Sx (msAsg (Mi.tTup (tsCons (tName 3) (tsCons (tName 4) (tsNil)))) (mTup (maCons (mLst true (maCons (mC (.int 1)) (maCons (mLst false (maCons (mC (.int 2)) (maNil))) (maCons (mDict 0 (mpCons (mC (.str "a")) (mC (.int 3)) (mpNil))) (maNil))))) (maCons (mDict 2 (mpCons (mC (.str "b")) (mLst false (maCons (mFn F_law_draw [] (maCons (mVar 0) (maCons (mC (.int 9)) (maNil)))) (maNil))) (mpNil))) (maNil)))) [some (.cel s), none, none, none, none, none, none, none, none, none, none, none] c)
      (fun τ c' => ∃ A B d, τ = [some (.cel s), none, none, some (.cel A), some (.cel B), none, none, none, none, none, none, none] ∧ Sq c' s (K + 1) ∧ A ≠ s ∧ B ≠ s ∧ A ≠ B ∧ ¬ owned c' s A ∧ ¬ owned c' s B ∧ 0 ≤ d ∧ d < 9 ∧ c'[A]? = some (.lst [.int 1, .lst [.int 2], .dK [.inr ("a" : Str)] [.int 3]]) ∧ c'[B]? = some (.dK [.inr ("b" : Str)] [.lst [.int d]])) (fun _ _ => False) := by
    generalize hD : mDict 2 (mpCons (mC (.str "b")) (mLst false (maCons (mFn F_law_draw [] (maCons (mVar 0) (maCons (mC (.int 9)) (maNil)))) (maNil))) (mpNil)) = D
    unfold msAsg
    simp only [msCons, msNil, msSet, msRet, msRetN, msExpr, msIf, msPar, mFn, mFnK, maCons, maNil, mVar, mC, m1, m2, mLst, mTup, mCall, mB, mTru, mtNot, mtAnd, mtOr, mM1, ok_bind, ok_ok, ok_ofO, sx_bindS, sx_nx, sx_ret, sx_seq, bind_ok, bindS_ok, seq_nx, seq_ret, ofO_some, List.getElem?_cons_succ, List.getElem?_cons_zero, List.set_cons_succ, List.set_cons_zero, List.append_nil, List.nil_append, List.length_cons, List.length_nil, mkL, Bool.false_eq_true, if_false, if_true, reduceIte, Bool.not_true, Bool.not_false, di, Nat.reduceAdd, Nat.reduceLeDiff]
    rw [← hD]
    refine dict2 S0 (by omega) rfl fun d c' d0 d1 S1 hB nB oB kp => ?_
    obtain ⟨k1, k2⟩ := kp c.length (by simp) n1 n2
    simp only [Mi.tTup, tsCons, tsNil, tName, tview, Option.bind_some, msCons, msNil, msSet, msRet, msRetN, msExpr, msIf, msPar, mFn, mFnK, maCons, maNil, mVar, mC, m1, m2, mLst, mTup, mCall, mB, mTru, mtNot, mtAnd, mtOr, mM1, ok_bind, ok_ok, ok_ofO, sx_bindS, sx_nx, sx_ret, sx_seq, bind_ok, bindS_ok, seq_nx, seq_ret, ofO_some, List.getElem?_cons_succ, List.getElem?_cons_zero, List.set_cons_succ, List.set_cons_zero, List.append_nil, List.nil_append, List.length_cons, List.length_nil, mkL, Bool.false_eq_true, if_false, if_true, reduceIte, Bool.not_true, Bool.not_false, Nat.reduceAdd, Nat.reduceLeDiff]
    exact ⟨c.length, _, d, rfl, S1, n1, nB, by simp, k2, oB, d0, d1, k1.trans hA, hB⟩
  generalize msAsg (Mi.tTup (tsCons (tName 3) (tsCons (tName 4) (tsNil)))) (mTup (maCons (mLst true (maCons (mC (.int 1)) (maCons (mLst false (maCons (mC (.int 2)) (maNil))) (maCons (mDict 0 (mpCons (mC (.str "a")) (mC (.int 3)) (mpNil))) (maNil))))) (maCons (mDict 2 (mpCons (mC (.str "b")) (mLst false (maCons (mFn F_law_draw [] (maCons (mVar 0) (maCons (mC (.int 9)) (maNil)))) (maNil))) (mpNil))) (maNil)))) = M1 at st1 ⊢
  rw [msCons, sx_seq]
  refine sx_imp st1 ?_ (fun _ _ h => h.elim)
  rintro τ c1 ⟨A, B, d, rfl, S1, nA, nB, nAB, oA, oB, d0, d1, hcA, hcB⟩
  have q1 : ∀ (C : Nat) (f : Str) (t : T) (c : Cs), t[3]? = some (some (.cel A)) → mErr C [f] (maCons (mVar 3) (maNil)) t c = .ok (.err C [f] [.cel A]) c := fun C f t c h => by simp [mErr, maCons, maNil, mVar, h]
  have lA : A < c1.length := (List.getElem?_eq_some_iff.mp hcA).1
  have hz : ((fun (xs : List U) => xs.length) [U.int 1, .lst [.int 2], .dK [.inr ("a" : Str)] [.int 3]]) < 10000 := by decide
  simp only [msCons, msNil, msSet, msRet, msRetN, msExpr, msIf, msPar, mFn, mFnK, maCons, maNil, mVar, mC, m1, m2, mLst, mTup, mCall, mB, mTru, mtNot, mtAnd, mtOr, mM1, ok_bind, ok_ok, ok_ofO, sx_bindS, sx_nx, sx_ret, sx_seq, bind_ok, bindS_ok, seq_nx, seq_ret, ofO_some, List.getElem?_cons_succ, List.getElem?_cons_zero, List.set_cons_succ, List.set_cons_zero, List.append_nil, List.nil_append, List.length_cons, List.length_nil, mkL, Bool.false_eq_true, if_false, if_true, reduceIte, Bool.not_true, Bool.not_false, values_ok, names_ok, two_ok, mErr, mApp, rev1, hcA]
  refine dr S1 (by omega) (by decide) (by decide) fun d2 c2 g0 g1 S2 F2 => ?_
  have kA := (F2.keep A lA nA oA).trans hcA
  have lB : B < c1.length := (List.getElem?_eq_some_iff.mp hcB).1
  have kB := (F2.keep B lB nB oB).trans hcB
  have pA : ¬ owned c2 s A := fun o => oA (F2.own _ lA o)
  have pB : ¬ owned c2 s B := fun o => oB (F2.own _ lB o)
  have lA2 : A < c2.length := (List.getElem?_eq_some_iff.mp kA).1
  have lB2 : B < c2.length := (List.getElem?_eq_some_iff.mp kB).1
  have ap : fApp (.cel A) [.int d2] c2 = some (.non, c2.set A (.lst [.int 1, .lst [.int 2], .dK [.inr ("a" : Str)] [.int 3], .int d2])) := by
    simp [fApp, kA]
  have kB2 : (c2.set A (.lst [.int 1, .lst [.int 2], .dK [.inr ("a" : Str)] [.int 3], .int d2]))[B]? = some (.dK [.inr ("b" : Str)] [.lst [.int d]]) := by rw [List.getElem?_set_ne nAB]; exact kB
  have dp : fDPut (.cel B) (.str ("c" : Str)) (.lst [.int 5]) (c2.set A (.lst [.int 1, .lst [.int 2], .dK [.inr ("a" : Str)] [.int 3], .int d2])) = some ((c2.set A (.lst [.int 1, .lst [.int 2], .dK [.inr ("a" : Str)] [.int 3], .int d2])).set B (.dK [.inr ("b" : Str), .inr ("c" : Str)] [.lst [.int d], .lst [.int 5]])) := by
    have hne : ¬ ((Sum.inr ("c" : Str) : Key) ∈ [(Sum.inr ("b" : Str) : Key)]) := fun h => absurd (Sum.inr.inj (List.mem_singleton.mp h)) (by decide +kernel)
    have nc : ¬ (Str.ofString "c" = Str.ofString "b") := by decide +kernel
    simp [fDPut, kB2, keyU, dputU, nc]
  generalize hc5 : (c2.set A (.lst [.int 1, .lst [.int 2], .dK [.inr ("a" : Str)] [.int 3], .int d2])).set B (.dK [.inr ("b" : Str), .inr ("c" : Str)] [.lst [.int d], .lst [.int 5]]) = c5 at dp
  have z1 : c5[A]? = some (.lst [.int 1, .lst [.int 2], .dK [.inr ("a" : Str)] [.int 3], .int d2]) := by
    rw [← hc5, List.getElem?_set_ne (Ne.symm nAB), List.getElem?_set_self lA2]
  have z2 : c5[B]? = some (.dK [.inr ("b" : Str), .inr ("c" : Str)] [.lst [.int d], .lst [.int 5]]) := by
    rw [← hc5, List.getElem?_set_self (by rw [List.length_set]; exact lB2)]
  have w1 : ∀ l, (c5 ++ l)[A]? = some (.lst [.int 1, .lst [.int 2], .dK [.inr ("a" : Str)] [.int 3], .int d2]) := fun l => by
    rw [List.getElem?_append_left (List.getElem?_eq_some_iff.mp z1).1]; exact z1
  have w2 : ∀ l, (c5 ++ l)[B]? = some (.dK [.inr ("b" : Str), .inr ("c" : Str)] [.lst [.int d], .lst [.int 5]]) := fun l => by
    rw [List.getElem?_append_left (List.getElem?_eq_some_iff.mp z2).1]; exact z2
  have pdA : ∀ l n, pdX (n + 4) (c5 ++ l) (.cel A) = some (dA d2) := fun l n => by
    show (match (c5 ++ l)[A]? with
      | some (.lst xs) => (pdL (pdX (n + 3) (c5 ++ l)) xs).map PyData.list
      | some (.dK ks xs) => (pdL (pdX (n + 3) (c5 ++ l)) xs).map fun ds => .dict ((ks.map keyD).zip ds)
      | _ => none) = _
    rw [w1]; rfl
  have pdB : ∀ l n, pdX (n + 4) (c5 ++ l) (.cel B) = some (dB d) := fun l n => by
    show (match (c5 ++ l)[B]? with
      | some (.lst xs) => (pdL (pdX (n + 3) (c5 ++ l)) xs).map PyData.list
      | some (.dK ks xs) => (pdL (pdX (n + 3) (c5 ++ l)) xs).map fun ds => .dict ((ks.map keyD).zip ds)
      | _ => none) = _
    rw [w2]; rfl
  obtain ⟨o1, o2, o3⟩ := ab d2 d g0 g1 d0 d1
  have r1 : ∀ l, fReprD [.cel A] (c5 ++ l) = some (.str (dA d2).shown, c5 ++ l) := fun l => rep (pdA l 4) o1
  have r1' : fReprD [.cel A] c5 = some (.str (dA d2).shown, c5) := by have := r1 []; rwa [List.append_nil] at this
  have r2 : ∀ l, fReprD [.lst [.cel A, .cel B]] (c5 ++ l) = some (.str (PyData.list [dA d2, dB d]).shown, c5 ++ l) := fun l => rep (pd2 (pdA l 3) (pdB l 3)) o3
  have r4 : fReprD [.lst [.cel A, .cel A, .cel A, .cel A]] c5 = some (.str (PyData.list [dA d2, dA d2, dA d2, dA d2]).shown, c5) := by
    have := rep (c := c5 ++ []) (pd4 (pdA [] 3) (pdA [] 3) (pdA [] 3) (pdA [] 3)) o2
    rwa [List.append_nil] at this
  have l1 : mLc 0 [11] (miList (mVar 5)) (tName 11) (mB (m2 (fEq true) (mCall fReprD (maCons (mEf [3, 11, 12, 13, 14, 17] "value" (mVar 11)) (maNil))) (mVar 2))) (mVar 11) [some (.cel s), some (.lst (two (.cel A) (.cel B))), some (.str (dA d2).shown), some (.cel A), some (.cel B), some (.lst (vals (.cel A))), some (.lst (nms (.cel A))), some (.err 7 ["count"] [.cel A]), some (.err 8 ["key"] [.cel A]), some (.err 9 ["total"] [.cel A]), some (.err 10 ["state"] [.cel A]), none] c5 = .ok (.lst []) c5 :=
    f_lc (src := fun c => lview c (.lst (vals (.cel A)))) (L := [3, 3, 11, 11, 12, 12, 13, 13, 14, 14, 17, 17]) (u := .cel A) (by simp [miList, mVar, lview]) (fun _ => rfl) (by decide) in_v ix_value (fun acc => r1 _) rfl (by simp) (by decide)
  have l2 : mLc 0 [11] (miList (mVar 6)) (tName 11) (mB (m2 (fEq true) (mCall fReprD (maCons (mEf [4, 5, 6] "name" (mVar 11)) (maNil))) (mVar 2))) (mVar 11) [some (.cel s), some (.lst (two (.cel A) (.cel B))), some (.str (dA d2).shown), some (.cel A), some (.cel B), some (.lst (vals (.cel A))), some (.lst (nms (.cel A))), some (.err 7 ["count"] [.cel A]), some (.err 8 ["key"] [.cel A]), some (.err 9 ["total"] [.cel A]), some (.err 10 ["state"] [.cel A]), none] c5 = .ok (.lst []) c5 :=
    f_lc (src := fun c => lview c (.lst (nms (.cel A)))) (L := [4, 4, 5, 5, 6, 6]) (u := .cel A) (by simp [miList, mVar, lview]) (fun _ => rfl) (by decide) in_n ix_name (fun acc => r1 _) rfl (by simp) (by decide)
  have l3 : mLc 0 [11] (miList (mVar 1)) (tName 11) (mB (m2 (fEq true) (mCall fReprD (maCons (mLst false (maCons (mEf [15, 16] "one" (mVar 11)) (maCons (mEf [15, 16] "other" (mVar 11)) (maNil)))) (maNil))) (mCall fReprD (maCons (mLst false (maCons (mVar 3) (maCons (mVar 4) (maNil)))) (maNil))))) (mVar 11) [some (.cel s), some (.lst (two (.cel A) (.cel B))), some (.str (dA d2).shown), some (.cel A), some (.cel B), some (.lst (vals (.cel A))), some (.lst (nms (.cel A))), some (.err 7 ["count"] [.cel A]), some (.err 8 ["key"] [.cel A]), some (.err 9 ["total"] [.cel A]), some (.err 10 ["state"] [.cel A]), none] c5 = .ok (.lst []) c5 :=
    two_lc (src := fun c => lview c (.lst (two (.cel A) (.cel B)))) (u := .cel A) (v := .cel B) (by simp [miList, mVar, lview]) (fun _ => rfl) (fun acc => r2 _) (by simp) (fun _ _ => rfl) (fun _ _ => rfl)
  generalize mLc 0 [11] (miList (mVar 5)) (tName 11) (mB (m2 (fEq true) (mCall fReprD (maCons (mEf [3, 11, 12, 13, 14, 17] "value" (mVar 11)) (maNil))) (mVar 2))) (mVar 11) = A1 at l1 ⊢
  generalize mLc 0 [11] (miList (mVar 6)) (tName 11) (mB (m2 (fEq true) (mCall fReprD (maCons (mEf [4, 5, 6] "name" (mVar 11)) (maNil))) (mVar 2))) (mVar 11) = A2 at l2 ⊢
  generalize mLc 0 [11] (miList (mVar 1)) (tName 11) (mB (m2 (fEq true) (mCall fReprD (maCons (mLst false (maCons (mEf [15, 16] "one" (mVar 11)) (maCons (mEf [15, 16] "other" (mVar 11)) (maNil)))) (maNil))) (mCall fReprD (maCons (mLst false (maCons (mVar 3) (maCons (mVar 4) (maNil)))) (maNil))))) (mVar 11) = A3 at l3 ⊢
  have p1 : mEf [7] "count" (mVar 7) [some (.cel s), some (.lst (two (.cel A) (.cel B))), some (.str (dA d2).shown), some (.cel A), some (.cel B), some (.lst (vals (.cel A))), some (.lst (nms (.cel A))), some (.err 7 ["count"] [.cel A]), some (.err 8 ["key"] [.cel A]), some (.err 9 ["total"] [.cel A]), some (.err 10 ["state"] [.cel A]), none] c5 = .ok (.cel A) c5 := efE rfl ix_count
  have p2 : mEf [8] "key" (mVar 8) [some (.cel s), some (.lst (two (.cel A) (.cel B))), some (.str (dA d2).shown), some (.cel A), some (.cel B), some (.lst (vals (.cel A))), some (.lst (nms (.cel A))), some (.err 7 ["count"] [.cel A]), some (.err 8 ["key"] [.cel A]), some (.err 9 ["total"] [.cel A]), some (.err 10 ["state"] [.cel A]), none] c5 = .ok (.cel A) c5 := efE rfl ix_key
  have p3 : mEf [9] "total" (mVar 9) [some (.cel s), some (.lst (two (.cel A) (.cel B))), some (.str (dA d2).shown), some (.cel A), some (.cel B), some (.lst (vals (.cel A))), some (.lst (nms (.cel A))), some (.err 7 ["count"] [.cel A]), some (.err 8 ["key"] [.cel A]), some (.err 9 ["total"] [.cel A]), some (.err 10 ["state"] [.cel A]), none] c5 = .ok (.cel A) c5 := efE rfl ix_total
  have p4 : mEf [10] "state" (mVar 10) [some (.cel s), some (.lst (two (.cel A) (.cel B))), some (.str (dA d2).shown), some (.cel A), some (.cel B), some (.lst (vals (.cel A))), some (.lst (nms (.cel A))), some (.err 7 ["count"] [.cel A]), some (.err 8 ["key"] [.cel A]), some (.err 9 ["total"] [.cel A]), some (.err 10 ["state"] [.cel A]), none] c5 = .ok (.cel A) c5 := efE rfl ix_state
  simp only [msCons, msNil, msSet, msRet, msRetN, msExpr, msIf, msPar, mFn, mFnK, maCons, maNil, mVar, mC, m1, m2, mLst, mTup, mCall, mB, mTru, mtNot, mtAnd, mtOr, mM1, ok_bind, ok_ok, ok_ofO, sx_bindS, sx_nx, sx_ret, sx_seq, bind_ok, bindS_ok, seq_nx, seq_ret, ofO_some, List.getElem?_cons_succ, List.getElem?_cons_zero, List.set_cons_succ, List.set_cons_zero, List.append_nil, List.nil_append, List.length_cons, List.length_nil, mkL, Bool.false_eq_true, if_false, if_true, reduceIte, Bool.not_true, Bool.not_false, ap, msDPut, Nat.reduceAdd, Nat.reduceLeDiff, dp, r1', l1, l2, l3, eqTl, eqFl, p1, p2, p3, p4, r4, mul4, eqT, Nat.zero_le]
end K01
namespace K01
open PySem PySem.Spec PyProof.Rows L2 Mi
theorem dictT (τ : T) (c : Cs) : mDictT (mpCons (mTup (maCons (mC (.str ("a" : Str))) (maCons (mC (.str ("b" : Str))) (maNil)))) (mC .non) (mpNil)) τ c = .ok (.dT [[.inr ("a" : Str), .inr ("b" : Str)]] [.non]) c := by
  have hc : (c ++ [Cell.dT [] []])[c.length]? = some (.dT [] []) := by rw [List.getElem?_append_right (Nat.le_refl _)]; simp
  unfold mDictT
  simp only [mpCons, mC, mpNil, mTup, maCons, maNil, bind_ok, hc, keyT, keyUs, keyU, Option.bind_some, Option.map_some, List.length_cons, List.length_nil, Nat.reduceAdd, Nat.reduceLeDiff, if_true]
  simp [noCel]
noncomputable def errs (u v : U) : List U := bare ++ two u v ++ vals u ++ nms u ++ [e1 7 "count" u, e1 8 "key" u, e1 9 "total" u, e1 10 "state" u]
theorem errs_in (u v : U) : ∀ w ∈ errs u v, ∃ C ns xs, w = .err C ns xs ∧ C ∈ ids := by
  intro w hw
  have key : ∀ (L : List Nat) (f : Nat → U), (∀ C, ∃ ns xs, f C = .err C ns xs) → (∀ C ∈ L, C ∈ ids) → w ∈ L.map f → ∃ C ns xs, w = .err C ns xs ∧ C ∈ ids := fun L f hf hL h => by
    obtain ⟨C, hC, rfl⟩ := List.mem_map.mp h
    obtain ⟨ns, xs, e⟩ := hf C
    exact ⟨C, ns, xs, e, hL C hC⟩
  unfold errs at hw
  simp only [List.mem_append] at hw
  rcases hw with (((h | h) | h) | h) | h
  · exact key [1, 2, 18, 19] (fun C => .err C [] []) (fun C => ⟨_, _, rfl⟩) (by decide) h
  · exact key [15, 15, 16, 16] (fun C => e2 C u v) (fun C => ⟨_, _, rfl⟩) (by decide) h
  · exact key [3, 3, 11, 11, 12, 12, 13, 13, 14, 14, 17, 17] (fun C => e1 C "value" u) (fun C => ⟨_, _, rfl⟩) (by decide) h
  · exact key [4, 4, 5, 5, 6, 6] (fun C => e1 C "name" u) (fun C => ⟨_, _, rfl⟩) (by decide) h
  · simp only [List.mem_cons, List.not_mem_nil, or_false] at h
    rcases h with rfl | rfl | rfl | rfl
    · exact ⟨7, _, _, rfl, by decide⟩
    · exact ⟨8, _, _, rfl, by decide⟩
    · exact ⟨9, _, _, rfl, by decide⟩
    · exact ⟨10, _, _, rfl, by decide⟩
theorem plain (ns : List Int) (h : ns.length ≤ 63) : ∃ c', F_the_law (scr ns) [] = .ok (.bl true) c' := by
  have goal : Ok (F_the_law (scr ns) []) fun u _ => u = .bl true := by
    unfold F_the_law B_the_law
    refine ok_fnT ?_
    obtain ⟨c1, s1, s2, s3⟩ := start_ok ns h
    have e : startU 8 (scr ns) = [some (.slst (ns.map .int)), none, none, none, none, none, none, none] := rfl
    rw [e]
    have s1 : F_law_start [.slst (ns.map .int)] [] = .ok (.cel 1) c1 := s1
    have d1 := dict0 ("a" : Str) (.int 1) rfl
    have hp : ∀ c, fPow (.int 10) (.int 30) c = some (.int (10 ^ 30), c) := fun c => by
      simp only [fPow, fInt2]
      rw [if_pos (by decide)]; rfl
    have hng : ∀ c, fNeg (.int 5) c = some (.int (-5), c) := fun _ => rfl
    have tl : [U.non, .bl true, .int (10 ^ 30), .str ("a b" : String), .lst [.int 1, .lst [.int 2]], .tup [.int 1, .str ("x" : String)], .dK [.inr ("a" : Str)] [.int 1], .int (-5), .str ("" : String), .dT [[.inr ("a" : Str), .inr ("b" : Str)]] [.non]] = things.map (·.1) := rfl
    simp only [msCons, msNil, msSet, msRet, msRetN, msExpr, msIf, msPar, mFn, mFnK, maCons, maNil, mVar, mC, m1, m2, mLst, mTup, mCall, mB, mTru, mtNot, mtAnd, mtOr, mM1, ok_bind, ok_ok, ok_ofO, sx_bindS, sx_nx, sx_ret, sx_seq, bind_ok, bindS_ok, seq_nx, seq_ret, ofO_some, List.getElem?_cons_succ, List.getElem?_cons_zero, List.set_cons_succ, List.set_cons_zero, List.append_nil, List.nil_append, List.length_cons, List.length_nil, mkL, Bool.false_eq_true, if_false, if_true, reduceIte, Bool.not_true, Bool.not_false, s1, d1, dictT, hp, hng, mTup, Nat.reduceAdd, Nat.reduceLeDiff, tl]
    refine sx_forM (ok_rng1 ?_)
    simp only [msCons, msNil, msSet, msRet, msRetN, msExpr, msIf, msPar, mFn, mFnK, maCons, maNil, mVar, mC, m1, m2, mLst, mTup, mCall, mB, mTru, mtNot, mtAnd, mtOr, mM1, ok_bind, ok_ok, ok_ofO, sx_bindS, sx_nx, sx_ret, sx_seq, bind_ok, bindS_ok, seq_nx, seq_ret, ofO_some, List.getElem?_cons_succ, List.getElem?_cons_zero, List.set_cons_succ, List.set_cons_zero, List.append_nil, List.nil_append, List.length_cons, List.length_nil, mkL, Bool.false_eq_true, if_false, if_true, reduceIte, Bool.not_true, Bool.not_false]
    refine ⟨2, rfl, by decide, by decide, ranged 0 2, fun _ => rfl, ?_⟩
    refine sx_forL (Inv := fun j τ c => (∃ a3 a4 a5 a6 a7, τ = [some (.slst (ns.map .int)), some (.cel 1), some (.lst (things.map (·.1))), a3, a4, a5, a6, a7]) ∧ Sq c 1 (10 * j)) ⟨⟨_, _, _, _, _, rfl⟩, s2⟩ ?_ ?_
    · rintro j u hu τ c ⟨⟨a3, a4, a5, a6, a7, rfl⟩, S⟩
      have hj : j < 2 := by
        have := (List.getElem?_eq_some_iff.mp hu).1
        have e : (ranged 0 2).length = 2 := by decide
        omega
      refine ⟨_, rfl, ?_⟩
      simp only [tName, msCons, msNil, msSet, msRet, msRetN, msExpr, msIf, msPar, mFn, mFnK, maCons, maNil, mVar, mC, m1, m2, mLst, mTup, mCall, mB, mTru, mtNot, mtAnd, mtOr, mM1, ok_bind, ok_ok, ok_ofO, sx_bindS, sx_nx, sx_ret, sx_seq, bind_ok, bindS_ok, seq_nx, seq_ret, ofO_some, List.getElem?_cons_succ, List.getElem?_cons_zero, List.set_cons_succ, List.set_cons_zero, List.append_nil, List.nil_append, List.length_cons, List.length_nil, mkL, Bool.false_eq_true, if_false, if_true, reduceIte, Bool.not_true, Bool.not_false]
      have hl : (10 : Int) = ((things.map (·.1)).length : Int) := rfl
      refine dr S (by omega) (by decide) (by decide) fun x c2 x0 x1 S2 F2 => ?_
      refine ok_ixl x0 (by rw [← hl]; exact x1) fun u1 hu1 => ?_
      obtain ⟨p, hp1, rfl⟩ := List.mem_map.mp hu1
      try simp only [msCons, msNil, msSet, msRet, msRetN, msExpr, msIf, msPar, mFn, mFnK, maCons, maNil, mVar, mC, m1, m2, mLst, mTup, mCall, mB, mTru, mtNot, mtAnd, mtOr, mM1, ok_bind, ok_ok, ok_ofO, sx_bindS, sx_nx, sx_ret, sx_seq, bind_ok, bindS_ok, seq_nx, seq_ret, ofO_some, List.getElem?_cons_succ, List.getElem?_cons_zero, List.set_cons_succ, List.set_cons_zero, List.append_nil, List.nil_append, List.length_cons, List.length_nil, mkL, Bool.false_eq_true, if_false, if_true, reduceIte, Bool.not_true, Bool.not_false]
      refine dr S2 (by omega) (by decide) (by decide) fun y c3 y0 y1 S3 F3 => ?_
      refine ok_ixl y0 (by rw [← hl]; exact y1) fun u2 hu2 => ?_
      obtain ⟨q, hq1, rfl⟩ := List.mem_map.mp hu2
      have ok := List.all_eq_true.mp things_ok p hp1
      simp only [Bool.and_eq_true] at ok
      have fo := fields_ok (u := p.1) (v := q.1) (fun c => things_pd p hp1 c) (fun c => (things_pd q hq1 c).1) ok.1.1.1 ok.1.1.2 ok.1.2 (List.all_eq_true.mp ok.2 q hq1)
      have b1 := fun c => addL (xs := bare) (ys := two p.1 q.1) (by simp [bare, two, vals, nms]) c
      have b2 := fun c => addL (xs := bare ++ two p.1 q.1) (ys := vals p.1) (by simp [bare, two, vals, nms]) c
      have b3 := fun c => addL (xs := bare ++ two p.1 q.1 ++ vals p.1) (ys := nms p.1) (by simp [bare, two, vals, nms]) c
      try simp only [msCons, msNil, msSet, msRet, msRetN, msExpr, msIf, msPar, mFn, mFnK, maCons, maNil, mVar, mC, m1, m2, mLst, mTup, mCall, mB, mTru, mtNot, mtAnd, mtOr, mM1, ok_bind, ok_ok, ok_ofO, sx_bindS, sx_nx, sx_ret, sx_seq, bind_ok, bindS_ok, seq_nx, seq_ret, ofO_some, List.getElem?_cons_succ, List.getElem?_cons_zero, List.set_cons_succ, List.set_cons_zero, List.append_nil, List.nil_append, List.length_cons, List.length_nil, mkL, Bool.false_eq_true, if_false, if_true, reduceIte, Bool.not_true, Bool.not_false, fo, truU, bare_ok, two_ok, values_ok, names_ok, b1, b2, b3]
      refine sx_forM (ok_listC ?_)
      have b4 := fun c => addL (xs := bare ++ two p.1 q.1 ++ vals p.1 ++ nms p.1) (ys := [e1 7 "count" p.1, e1 8 "key" p.1, e1 9 "total" p.1, e1 10 "state" p.1]) (by simp [bare, two, vals, nms]) c
      unfold e1 at b4
      simp only [msCons, msNil, msSet, msRet, msRetN, msExpr, msIf, msPar, mFn, mFnK, maCons, maNil, mVar, mC, m1, m2, mLst, mTup, mCall, mB, mTru, mtNot, mtAnd, mtOr, mM1, ok_bind, ok_ok, ok_ofO, sx_bindS, sx_nx, sx_ret, sx_seq, bind_ok, bindS_ok, seq_nx, seq_ret, ofO_some, List.getElem?_cons_succ, List.getElem?_cons_zero, List.set_cons_succ, List.set_cons_zero, List.append_nil, List.nil_append, List.length_cons, List.length_nil, mkL, Bool.false_eq_true, if_false, if_true, reduceIte, Bool.not_true, Bool.not_false, mErr, rev1, Nat.reduceAdd, Nat.reduceLeDiff, b4]
      refine ⟨_, rfl, errs p.1 q.1, fun _ => rfl, ?_⟩
      refine sx_forL (Inv := fun i τ c => (∃ a5, τ = [some (.slst (ns.map .int)), some (.cel 1), some (.lst (things.map (·.1))), some u, some (.lst (bare ++ two p.1 q.1 ++ vals p.1 ++ nms p.1)), a5, some p.1, some q.1]) ∧ Sq c 1 (10 * (j + 1))) ⟨⟨_, rfl⟩, S3.up (by omega)⟩ ?_ ?_
      · rintro i v hv τ c7 ⟨⟨a5, rfl⟩, S7⟩
        obtain ⟨C, nn, xs, rfl, hC⟩ := errs_in p.1 q.1 v (List.mem_of_getElem? hv)
        refine ⟨_, rfl, ?_⟩
        have k1 := kinds_ok hC nn xs
        have k2 := lkA C hC
        have hn1 : ∀ c, fEq true (.int 1) (.int 1) c = some (.bl false, c) := fun _ => rfl
        simp only [tName, msCons, msNil, msSet, msRet, msRetN, msExpr, msIf, msPar, mFn, mFnK, maCons, maNil, mVar, mC, m1, m2, mLst, mTup, mCall, mB, mTru, mtNot, mtAnd, mtOr, mM1, ok_bind, ok_ok, ok_ofO, sx_bindS, sx_nx, sx_ret, sx_seq, bind_ok, bindS_ok, seq_nx, seq_ret, ofO_some, List.getElem?_cons_succ, List.getElem?_cons_zero, List.set_cons_succ, List.set_cons_zero, List.append_nil, List.nil_append, List.length_cons, List.length_nil, mkL, Bool.false_eq_true, if_false, if_true, reduceIte, Bool.not_true, Bool.not_false, k1, hn1, mIsE, k2, truU]
        exact ⟨⟨_, rfl⟩, S7⟩
      · rintro τ c7 ⟨⟨a5, rfl⟩, S7⟩
        exact ⟨⟨_, _, _, _, _, rfl⟩, S7⟩
    · rintro τ c ⟨⟨a3, a4, a5, a6, a7, rfl⟩, S⟩
      have hlen : (ranged 0 2).length = 2 := by decide
      rw [hlen] at S
      simp only [msCons, msNil, msSet, msRet, msRetN, msExpr, msIf, msPar, mFn, mFnK, maCons, maNil, mVar, mC, m1, m2, mLst, mTup, mCall, mB, mTru, mtNot, mtAnd, mtOr, mM1, ok_bind, ok_ok, ok_ofO, sx_bindS, sx_nx, sx_ret, sx_seq, bind_ok, bindS_ok, seq_nx, seq_ret, ofO_some, List.getElem?_cons_succ, List.getElem?_cons_zero, List.set_cons_succ, List.set_cons_zero, List.append_nil, List.nil_append, List.length_cons, List.length_nil, mkL, Bool.false_eq_true, if_false, if_true, reduceIte, Bool.not_true, Bool.not_false]
      refine ok_imp (very_wp S (by omega)) ?_
      rintro u c' rfl
      exact ⟨fun k c => frz_bl k _ c, rfl, rfl, rfl⟩
  obtain ⟨u, c', e, rfl⟩ := ok_ex goal
  exact ⟨c', e⟩
end K01
namespace K01
open PySem PySem.Spec PyProof.Rows L2 Mi
abbrev tE_BadCount : List (Nat × Bool) := [(0, false), (1, false), (2, false), (3, false), (4, false), (5, false), (6, false), (7, true), (8, false), (9, false), (10, false), (11, false), (12, false), (13, false), (14, false), (15, false), (16, false), (17, false), (18, false), (19, false)]
abbrev tE_BadKey : List (Nat × Bool) := [(0, false), (1, false), (2, false), (3, false), (4, false), (5, false), (6, false), (7, false), (8, true), (9, false), (10, false), (11, false), (12, false), (13, false), (14, false), (15, false), (16, false), (17, false), (18, false), (19, false)]
abbrev tE_BadName : List (Nat × Bool) := [(0, false), (1, false), (2, false), (3, false), (4, true), (5, false), (6, false), (7, false), (8, false), (9, false), (10, false), (11, false), (12, false), (13, false), (14, false), (15, false), (16, false), (17, false), (18, false), (19, false)]
abbrev tE_BadNumber : List (Nat × Bool) := [(0, false), (1, false), (2, false), (3, true), (4, false), (5, false), (6, false), (7, false), (8, false), (9, false), (10, false), (11, false), (12, false), (13, false), (14, false), (15, false), (16, false), (17, false), (18, false), (19, false)]
abbrev tE_BadPairs : List (Nat × Bool) := [(0, false), (1, false), (2, false), (3, false), (4, false), (5, false), (6, false), (7, false), (8, false), (9, false), (10, false), (11, false), (12, false), (13, false), (14, true), (15, false), (16, false), (17, false), (18, false), (19, false)]
abbrev tE_BadPlan : List (Nat × Bool) := [(0, false), (1, false), (2, false), (3, false), (4, false), (5, false), (6, false), (7, false), (8, false), (9, false), (10, false), (11, false), (12, false), (13, true), (14, false), (15, false), (16, false), (17, false), (18, false), (19, false)]
abbrev tE_BadRow : List (Nat × Bool) := [(0, false), (1, false), (2, false), (3, false), (4, false), (5, false), (6, false), (7, false), (8, false), (9, false), (10, false), (11, true), (12, false), (13, false), (14, false), (15, false), (16, false), (17, false), (18, false), (19, false)]
abbrev tE_BadSum : List (Nat × Bool) := [(0, false), (1, false), (2, false), (3, false), (4, false), (5, false), (6, false), (7, false), (8, false), (9, true), (10, false), (11, false), (12, false), (13, false), (14, false), (15, false), (16, false), (17, false), (18, false), (19, false)]
abbrev tE_BadTable : List (Nat × Bool) := [(0, false), (1, false), (2, false), (3, false), (4, false), (5, false), (6, false), (7, false), (8, false), (9, false), (10, false), (11, false), (12, true), (13, false), (14, false), (15, false), (16, false), (17, false), (18, false), (19, false)]
abbrev tE_BadText : List (Nat × Bool) := [(0, false), (1, false), (2, true), (3, false), (4, false), (5, false), (6, false), (7, false), (8, false), (9, false), (10, false), (11, false), (12, false), (13, false), (14, false), (15, false), (16, false), (17, false), (18, false), (19, false)]
abbrev tE_ByZero : List (Nat × Bool) := [(0, false), (1, true), (2, false), (3, false), (4, false), (5, false), (6, false), (7, false), (8, false), (9, false), (10, false), (11, false), (12, false), (13, false), (14, false), (15, false), (16, false), (17, false), (18, false), (19, false)]
abbrev tE_DuplicateName : List (Nat × Bool) := [(0, false), (1, false), (2, false), (3, false), (4, false), (5, true), (6, false), (7, false), (8, false), (9, false), (10, false), (11, false), (12, false), (13, false), (14, false), (15, false), (16, false), (17, false), (18, false), (19, false)]
abbrev tE_NewsError : List (Nat × Bool) := [(0, true), (1, true), (2, true), (3, true), (4, true), (5, true), (6, true), (7, true), (8, true), (9, true), (10, true), (11, true), (12, true), (13, true), (14, true), (15, true), (16, true), (17, true), (18, true), (19, true)]
abbrev tE_NoBound : List (Nat × Bool) := [(0, false), (1, false), (2, false), (3, false), (4, false), (5, false), (6, false), (7, false), (8, false), (9, false), (10, false), (11, false), (12, false), (13, false), (14, false), (15, false), (16, false), (17, false), (18, true), (19, false)]
abbrev tE_NoNews : List (Nat × Bool) := [(0, false), (1, false), (2, false), (3, false), (4, false), (5, false), (6, false), (7, false), (8, false), (9, false), (10, false), (11, false), (12, false), (13, false), (14, false), (15, false), (16, false), (17, true), (18, false), (19, false)]
abbrev tE_NoWeight : List (Nat × Bool) := [(0, false), (1, false), (2, false), (3, false), (4, false), (5, false), (6, false), (7, false), (8, false), (9, false), (10, true), (11, false), (12, false), (13, false), (14, false), (15, false), (16, false), (17, false), (18, false), (19, false)]
abbrev tE_NothingToUndo : List (Nat × Bool) := [(0, false), (1, false), (2, false), (3, false), (4, false), (5, false), (6, false), (7, false), (8, false), (9, false), (10, false), (11, false), (12, false), (13, false), (14, false), (15, false), (16, false), (17, false), (18, false), (19, true)]
abbrev tE_UnknownName : List (Nat × Bool) := [(0, false), (1, false), (2, false), (3, false), (4, false), (5, false), (6, true), (7, false), (8, false), (9, false), (10, false), (11, false), (12, false), (13, false), (14, false), (15, false), (16, false), (17, false), (18, false), (19, false)]
abbrev tE_UnlikeStates : List (Nat × Bool) := [(0, false), (1, false), (2, false), (3, false), (4, false), (5, false), (6, false), (7, false), (8, false), (9, false), (10, false), (11, false), (12, false), (13, false), (14, false), (15, true), (16, false), (17, false), (18, false), (19, false)]
abbrev tE_UnlikeWeights : List (Nat × Bool) := [(0, false), (1, false), (2, false), (3, false), (4, false), (5, false), (6, false), (7, false), (8, false), (9, false), (10, false), (11, false), (12, false), (13, false), (14, false), (15, false), (16, true), (17, false), (18, false), (19, false)]
abbrev tE_ValueError : List (Nat × Bool) := [(0, true), (1, true), (2, true), (3, true), (4, true), (5, true), (6, true), (7, true), (8, true), (9, true), (10, true), (11, true), (12, true), (13, true), (14, true), (15, true), (16, true), (17, true), (18, true), (19, true)]
theorem all_mk {l : PySem.W.OpenLaw} {w : World} {K : PySem.W.Frag} {h : Heap} {mg : Str → Option Value} {fa : Addr} (X : K.In h) (G : h.Ns mainGlobals mg) (hfa : mg "law" = some (.ref fa))
    {f0 f1 f2 f3 f4 f5 f6 f7 f8 f9 : Addr} {od0 an0 od1 an1 od2 an2 od3 an3 od4 an4 od5 an5 od6 an6 od7 an7 od8 an8 od9 an9 : Option Addr} {sl0 sl1 sl2 sl3 sl4 sl5 sl6 sl7 sl8 sl9 : Array (Option Value)} {oc0 kV0 dc0 pm0 cd0 ct0 oc1 kV1 dc1 pm1 cd1 ct1 oc2 kV2 dc2 pm2 cd2 ct2 oc3 kV3 dc3 pm3 cd3 ct3 oc4 kV4 dc4 pm4 cd4 ct4 oc5 kV5 dc5 pm5 cd5 ct5 oc6 kV6 dc6 pm6 cd6 ct6 oc7 kV7 dc7 pm7 cd7 ct7 oc8 kV8 dc8 pm8 cd8 ct8 oc9 kV9 dc9 pm9 cd9 ct9 : Value}
    {cc0 cc1 cc2 cc3 cc4 cc5 cc6 cc7 cc8 cc9 cc10 cc11 cc12 cc13 cc14 cc15 cc16 cc17 cc18 cc19 : Addr}
    {vf3 vcd3 vcc3 vf4 vcd4 vcc4 vf5 vcd5 vcc5 vf6 vcd6 vcc6 vf7 vcd7 vcc7 vf8 vcd8 vcc8 vf9 vcd9 vcc9 vf10 vcd10 vcc10 vf11 vcd11 vcc11 vf12 vcd12 vcc12 vf13 vcd13 vcc13 vf14 vcd14 vcc14 vf15 vcd15 vcc15 vf16 vcd16 vcc16 vf17 vcd17 vcc17 : Addr} {vod3 van3 vy3 vw3 vod4 van4 vy4 vw4 vod5 van5 vy5 vw5 vod6 van6 vy6 vw6 vod7 van7 vy7 vw7 vod8 van8 vy8 vw8 vod9 van9 vy9 vw9 vod10 van10 vy10 vw10 vod11 van11 vy11 vw11 vod12 van12 vy12 vw12 vod13 van13 vy13 vw13 vod14 van14 vy14 vw14 vod15 van15 vy15 vw15 vod16 van16 vy16 vw16 vod17 van17 vy17 vw17 : Option Addr} {vsl3 vz3 vt3 vsl4 vz4 vt4 vsl5 vz5 vt5 vsl6 vz6 vt6 vsl7 vz7 vt7 vsl8 vz8 vt8 vsl9 vz9 vt9 vsl10 vz10 vt10 vsl11 vz11 vt11 vsl12 vz12 vt12 vsl13 vz13 vt13 vsl14 vz14 vt14 vsl15 vz15 vt15 vsl16 vz16 vt16 vsl17 vz17 vt17 : Array (Option Value)} {voc3 vkV3 vdc3 vpm3 vct3 vx3 vu3 voc4 vkV4 vdc4 vpm4 vct4 vx4 vu4 voc5 vkV5 vdc5 vpm5 vct5 vx5 vu5 voc6 vkV6 vdc6 vpm6 vct6 vx6 vu6 voc7 vkV7 vdc7 vpm7 vct7 vx7 vu7 voc8 vkV8 vdc8 vpm8 vct8 vx8 vu8 voc9 vkV9 vdc9 vpm9 vct9 vx9 vu9 voc10 vkV10 vdc10 vpm10 vct10 vx10 vu10 voc11 vkV11 vdc11 vpm11 vct11 vx11 vu11 voc12 vkV12 vdc12 vpm12 vct12 vx12 vu12 voc13 vkV13 vdc13 vpm13 vct13 vx13 vu13 voc14 vkV14 vdc14 vpm14 vct14 vx14 vu14 voc15 vkV15 vdc15 vpm15 vct15 vx15 vu15 voc16 vkV16 vdc16 vpm16 vct16 vx16 vu16 voc17 vkV17 vdc17 vpm17 vct17 vx17 vu17 : Value} {vv3 vv4 vv5 vv6 vv7 vv8 vv9 vv10 vv11 vv12 vv13 vv14 vv15 vv16 vv17 : Array Value} {vfi3 vfi4 vfi5 vfi6 vfi7 vfi8 vfi9 vfi10 vfi11 vfi12 vfi13 vfi14 vfi15 vfi16 vfi17 : Str} {vtf3 vtf4 vtf5 vtf6 vtf7 vtf8 vtf9 vtf10 vtf11 vtf12 vtf13 vtf14 vtf15 vtf16 vtf17 : Tok}
    (y0 : PySem.W.nsIn K mainGlobals "NewsError" = some (some (.ref cc0)))
    (y1 : PySem.W.nsIn K mainGlobals "ByZero" = some (some (.ref cc1)))
    (y2 : PySem.W.nsIn K mainGlobals "BadText" = some (some (.ref cc2)))
    (y3 : PySem.W.nsIn K mainGlobals "BadNumber" = some (some (.ref cc3)))
    (y4 : PySem.W.nsIn K mainGlobals "BadName" = some (some (.ref cc4)))
    (y5 : PySem.W.nsIn K mainGlobals "DuplicateName" = some (some (.ref cc5)))
    (y6 : PySem.W.nsIn K mainGlobals "UnknownName" = some (some (.ref cc6)))
    (y7 : PySem.W.nsIn K mainGlobals "BadCount" = some (some (.ref cc7)))
    (y8 : PySem.W.nsIn K mainGlobals "BadKey" = some (some (.ref cc8)))
    (y9 : PySem.W.nsIn K mainGlobals "BadSum" = some (some (.ref cc9)))
    (y10 : PySem.W.nsIn K mainGlobals "NoWeight" = some (some (.ref cc10)))
    (y11 : PySem.W.nsIn K mainGlobals "BadRow" = some (some (.ref cc11)))
    (y12 : PySem.W.nsIn K mainGlobals "BadTable" = some (some (.ref cc12)))
    (y13 : PySem.W.nsIn K mainGlobals "BadPlan" = some (some (.ref cc13)))
    (y14 : PySem.W.nsIn K mainGlobals "BadPairs" = some (some (.ref cc14)))
    (y15 : PySem.W.nsIn K mainGlobals "UnlikeStates" = some (some (.ref cc15)))
    (y16 : PySem.W.nsIn K mainGlobals "UnlikeWeights" = some (some (.ref cc16)))
    (y17 : PySem.W.nsIn K mainGlobals "NoNews" = some (some (.ref cc17)))
    (y18 : PySem.W.nsIn K mainGlobals "NoBound" = some (some (.ref cc18)))
    (y19 : PySem.W.nsIn K mainGlobals "NothingToUndo" = some (some (.ref cc19)))
    (ea_1 : PySem.W.excIn K cc1 [.type "ValueError", .type "Exception", .type "BaseException", .type "object"] "ValueError.__new__" = true)
    (eb_1 : PySem.W.keepIn K (.ref cc1) = true)
    (ec_1 : PySem.W.subIn K (.ref cc1) (.type "BaseException") = some true)
    (ed_1 : PySem.W.typeIn K (.ref cc1) = some (.type "type"))
    (ea_2 : PySem.W.excIn K cc2 [.type "ValueError", .type "Exception", .type "BaseException", .type "object"] "ValueError.__new__" = true)
    (eb_2 : PySem.W.keepIn K (.ref cc2) = true)
    (ec_2 : PySem.W.subIn K (.ref cc2) (.type "BaseException") = some true)
    (ed_2 : PySem.W.typeIn K (.ref cc2) = some (.type "type"))
    (ea_18 : PySem.W.excIn K cc18 [.type "ValueError", .type "Exception", .type "BaseException", .type "object"] "ValueError.__new__" = true)
    (eb_18 : PySem.W.keepIn K (.ref cc18) = true)
    (ec_18 : PySem.W.subIn K (.ref cc18) (.type "BaseException") = some true)
    (ed_18 : PySem.W.typeIn K (.ref cc18) = some (.type "type"))
    (ea_19 : PySem.W.excIn K cc19 [.type "ValueError", .type "Exception", .type "BaseException", .type "object"] "ValueError.__new__" = true)
    (eb_19 : PySem.W.keepIn K (.ref cc19) = true)
    (ec_19 : PySem.W.subIn K (.ref cc19) (.type "BaseException") = some true)
    (ed_19 : PySem.W.typeIn K (.ref cc19) = some (.type "type"))
    (va_3 : PySem.W.findIn K (.ref cc3) "__init__" = some (some (.ref vf3)))
    (vl_3 : K.lookup vf3 = some ⟨voc3, vod3, .func (PySem.W.ksFn "__init__" "BadNumber.__init__" (defArgs (memS 4 0)) (defBody (memS 4 0)) (defScope (memS 4 0)) .none vkV3 vdc3 vpm3 van3 (.ref vcd3) vct3 vcc3), vsl3⟩)
    (vb_3 : PySem.W.codeIn K (.ref vcd3) "BadNumber.__init__" = true)
    (vo_3 : K.lookup vcd3 = some ⟨vx3, vy3, .fields vv3, vz3⟩)
    (vp_3 : vv3[2]? = some (.str vfi3 vtf3))
    (vq_3 : ((l.prog.main.file : Str) == vfi3) = true)
    (vr_3 : K.lookup vcc3 = some ⟨vu3, vw3, .cell (some (.ref cc3)), vt3⟩)
    (vm_3 : PySem.W.ks_superIn K cc3 cc3 "__init__" = some (some (.builtin "ValueError.__init__")))
    (vB_3 : PySem.W.subIn K (.ref cc3) (.type "ValueError") = some true)
    (vg_3 : PySem.W.excInitIn K cc3 [.type "ValueError", .type "Exception", .type "BaseException", .type "object"] "ValueError.__new__" = true)
    (vh_3 : oexB K cc3 = true)
    (vs_3 : PySem.W.findIn K (.ref cc3) "__setattr__" = some (some (.builtin "object.__setattr__")))
    (vc_3 : PySem.W.subIn K (.ref cc3) (.type "BaseException") = some true)
    (vd_3 : PySem.W.typeIn K (.ref cc3) = some (.type "type"))
    (ve_3 : PySem.W.keepIn K (.ref cc3) = true)
    (vn_3 : PySem.W.typeIn K (.ref vf3) = some (.type "function"))
    (vga_3 : PySem.W.findIn K (.ref cc3) "__getattribute__" = some (some (.builtin "BaseException.__getattribute__")))
    (vgg_3 : PySem.W.findIn K (.ref cc3) "__getattr__" = some none)
    (vhd_3 : PySem.W.hasDictIn K cc3 = true)
    (vno_3_value : PySem.W.findIn K (.ref cc3) "value" = some none)
    (va_4 : PySem.W.findIn K (.ref cc4) "__init__" = some (some (.ref vf4)))
    (vl_4 : K.lookup vf4 = some ⟨voc4, vod4, .func (PySem.W.ksFn "__init__" "BadName.__init__" (defArgs (memS 5 0)) (defBody (memS 5 0)) (defScope (memS 5 0)) .none vkV4 vdc4 vpm4 van4 (.ref vcd4) vct4 vcc4), vsl4⟩)
    (vb_4 : PySem.W.codeIn K (.ref vcd4) "BadName.__init__" = true)
    (vo_4 : K.lookup vcd4 = some ⟨vx4, vy4, .fields vv4, vz4⟩)
    (vp_4 : vv4[2]? = some (.str vfi4 vtf4))
    (vq_4 : ((l.prog.main.file : Str) == vfi4) = true)
    (vr_4 : K.lookup vcc4 = some ⟨vu4, vw4, .cell (some (.ref cc4)), vt4⟩)
    (vm_4 : PySem.W.ks_superIn K cc4 cc4 "__init__" = some (some (.builtin "ValueError.__init__")))
    (vB_4 : PySem.W.subIn K (.ref cc4) (.type "ValueError") = some true)
    (vg_4 : PySem.W.excInitIn K cc4 [.type "ValueError", .type "Exception", .type "BaseException", .type "object"] "ValueError.__new__" = true)
    (vh_4 : oexB K cc4 = true)
    (vs_4 : PySem.W.findIn K (.ref cc4) "__setattr__" = some (some (.builtin "object.__setattr__")))
    (vc_4 : PySem.W.subIn K (.ref cc4) (.type "BaseException") = some true)
    (vd_4 : PySem.W.typeIn K (.ref cc4) = some (.type "type"))
    (ve_4 : PySem.W.keepIn K (.ref cc4) = true)
    (vn_4 : PySem.W.typeIn K (.ref vf4) = some (.type "function"))
    (vga_4 : PySem.W.findIn K (.ref cc4) "__getattribute__" = some (some (.builtin "BaseException.__getattribute__")))
    (vgg_4 : PySem.W.findIn K (.ref cc4) "__getattr__" = some none)
    (vhd_4 : PySem.W.hasDictIn K cc4 = true)
    (vno_4_name : PySem.W.findIn K (.ref cc4) "name" = some none)
    (va_5 : PySem.W.findIn K (.ref cc5) "__init__" = some (some (.ref vf5)))
    (vl_5 : K.lookup vf5 = some ⟨voc5, vod5, .func (PySem.W.ksFn "__init__" "DuplicateName.__init__" (defArgs (memS 6 0)) (defBody (memS 6 0)) (defScope (memS 6 0)) .none vkV5 vdc5 vpm5 van5 (.ref vcd5) vct5 vcc5), vsl5⟩)
    (vb_5 : PySem.W.codeIn K (.ref vcd5) "DuplicateName.__init__" = true)
    (vo_5 : K.lookup vcd5 = some ⟨vx5, vy5, .fields vv5, vz5⟩)
    (vp_5 : vv5[2]? = some (.str vfi5 vtf5))
    (vq_5 : ((l.prog.main.file : Str) == vfi5) = true)
    (vr_5 : K.lookup vcc5 = some ⟨vu5, vw5, .cell (some (.ref cc5)), vt5⟩)
    (vm_5 : PySem.W.ks_superIn K cc5 cc5 "__init__" = some (some (.builtin "ValueError.__init__")))
    (vB_5 : PySem.W.subIn K (.ref cc5) (.type "ValueError") = some true)
    (vg_5 : PySem.W.excInitIn K cc5 [.type "ValueError", .type "Exception", .type "BaseException", .type "object"] "ValueError.__new__" = true)
    (vh_5 : oexB K cc5 = true)
    (vs_5 : PySem.W.findIn K (.ref cc5) "__setattr__" = some (some (.builtin "object.__setattr__")))
    (vc_5 : PySem.W.subIn K (.ref cc5) (.type "BaseException") = some true)
    (vd_5 : PySem.W.typeIn K (.ref cc5) = some (.type "type"))
    (ve_5 : PySem.W.keepIn K (.ref cc5) = true)
    (vn_5 : PySem.W.typeIn K (.ref vf5) = some (.type "function"))
    (vga_5 : PySem.W.findIn K (.ref cc5) "__getattribute__" = some (some (.builtin "BaseException.__getattribute__")))
    (vgg_5 : PySem.W.findIn K (.ref cc5) "__getattr__" = some none)
    (vhd_5 : PySem.W.hasDictIn K cc5 = true)
    (vno_5_name : PySem.W.findIn K (.ref cc5) "name" = some none)
    (va_6 : PySem.W.findIn K (.ref cc6) "__init__" = some (some (.ref vf6)))
    (vl_6 : K.lookup vf6 = some ⟨voc6, vod6, .func (PySem.W.ksFn "__init__" "UnknownName.__init__" (defArgs (memS 7 0)) (defBody (memS 7 0)) (defScope (memS 7 0)) .none vkV6 vdc6 vpm6 van6 (.ref vcd6) vct6 vcc6), vsl6⟩)
    (vb_6 : PySem.W.codeIn K (.ref vcd6) "UnknownName.__init__" = true)
    (vo_6 : K.lookup vcd6 = some ⟨vx6, vy6, .fields vv6, vz6⟩)
    (vp_6 : vv6[2]? = some (.str vfi6 vtf6))
    (vq_6 : ((l.prog.main.file : Str) == vfi6) = true)
    (vr_6 : K.lookup vcc6 = some ⟨vu6, vw6, .cell (some (.ref cc6)), vt6⟩)
    (vm_6 : PySem.W.ks_superIn K cc6 cc6 "__init__" = some (some (.builtin "ValueError.__init__")))
    (vB_6 : PySem.W.subIn K (.ref cc6) (.type "ValueError") = some true)
    (vg_6 : PySem.W.excInitIn K cc6 [.type "ValueError", .type "Exception", .type "BaseException", .type "object"] "ValueError.__new__" = true)
    (vh_6 : oexB K cc6 = true)
    (vs_6 : PySem.W.findIn K (.ref cc6) "__setattr__" = some (some (.builtin "object.__setattr__")))
    (vc_6 : PySem.W.subIn K (.ref cc6) (.type "BaseException") = some true)
    (vd_6 : PySem.W.typeIn K (.ref cc6) = some (.type "type"))
    (ve_6 : PySem.W.keepIn K (.ref cc6) = true)
    (vn_6 : PySem.W.typeIn K (.ref vf6) = some (.type "function"))
    (vga_6 : PySem.W.findIn K (.ref cc6) "__getattribute__" = some (some (.builtin "BaseException.__getattribute__")))
    (vgg_6 : PySem.W.findIn K (.ref cc6) "__getattr__" = some none)
    (vhd_6 : PySem.W.hasDictIn K cc6 = true)
    (vno_6_name : PySem.W.findIn K (.ref cc6) "name" = some none)
    (va_7 : PySem.W.findIn K (.ref cc7) "__init__" = some (some (.ref vf7)))
    (vl_7 : K.lookup vf7 = some ⟨voc7, vod7, .func (PySem.W.ksFn "__init__" "BadCount.__init__" (defArgs (memS 8 0)) (defBody (memS 8 0)) (defScope (memS 8 0)) .none vkV7 vdc7 vpm7 van7 (.ref vcd7) vct7 vcc7), vsl7⟩)
    (vb_7 : PySem.W.codeIn K (.ref vcd7) "BadCount.__init__" = true)
    (vo_7 : K.lookup vcd7 = some ⟨vx7, vy7, .fields vv7, vz7⟩)
    (vp_7 : vv7[2]? = some (.str vfi7 vtf7))
    (vq_7 : ((l.prog.main.file : Str) == vfi7) = true)
    (vr_7 : K.lookup vcc7 = some ⟨vu7, vw7, .cell (some (.ref cc7)), vt7⟩)
    (vm_7 : PySem.W.ks_superIn K cc7 cc7 "__init__" = some (some (.builtin "ValueError.__init__")))
    (vB_7 : PySem.W.subIn K (.ref cc7) (.type "ValueError") = some true)
    (vg_7 : PySem.W.excInitIn K cc7 [.type "ValueError", .type "Exception", .type "BaseException", .type "object"] "ValueError.__new__" = true)
    (vh_7 : oexB K cc7 = true)
    (vs_7 : PySem.W.findIn K (.ref cc7) "__setattr__" = some (some (.builtin "object.__setattr__")))
    (vc_7 : PySem.W.subIn K (.ref cc7) (.type "BaseException") = some true)
    (vd_7 : PySem.W.typeIn K (.ref cc7) = some (.type "type"))
    (ve_7 : PySem.W.keepIn K (.ref cc7) = true)
    (vn_7 : PySem.W.typeIn K (.ref vf7) = some (.type "function"))
    (vga_7 : PySem.W.findIn K (.ref cc7) "__getattribute__" = some (some (.builtin "BaseException.__getattribute__")))
    (vgg_7 : PySem.W.findIn K (.ref cc7) "__getattr__" = some none)
    (vhd_7 : PySem.W.hasDictIn K cc7 = true)
    (vno_7_count : PySem.W.findIn K (.ref cc7) "count" = some none)
    (va_8 : PySem.W.findIn K (.ref cc8) "__init__" = some (some (.ref vf8)))
    (vl_8 : K.lookup vf8 = some ⟨voc8, vod8, .func (PySem.W.ksFn "__init__" "BadKey.__init__" (defArgs (memS 9 0)) (defBody (memS 9 0)) (defScope (memS 9 0)) .none vkV8 vdc8 vpm8 van8 (.ref vcd8) vct8 vcc8), vsl8⟩)
    (vb_8 : PySem.W.codeIn K (.ref vcd8) "BadKey.__init__" = true)
    (vo_8 : K.lookup vcd8 = some ⟨vx8, vy8, .fields vv8, vz8⟩)
    (vp_8 : vv8[2]? = some (.str vfi8 vtf8))
    (vq_8 : ((l.prog.main.file : Str) == vfi8) = true)
    (vr_8 : K.lookup vcc8 = some ⟨vu8, vw8, .cell (some (.ref cc8)), vt8⟩)
    (vm_8 : PySem.W.ks_superIn K cc8 cc8 "__init__" = some (some (.builtin "ValueError.__init__")))
    (vB_8 : PySem.W.subIn K (.ref cc8) (.type "ValueError") = some true)
    (vg_8 : PySem.W.excInitIn K cc8 [.type "ValueError", .type "Exception", .type "BaseException", .type "object"] "ValueError.__new__" = true)
    (vh_8 : oexB K cc8 = true)
    (vs_8 : PySem.W.findIn K (.ref cc8) "__setattr__" = some (some (.builtin "object.__setattr__")))
    (vc_8 : PySem.W.subIn K (.ref cc8) (.type "BaseException") = some true)
    (vd_8 : PySem.W.typeIn K (.ref cc8) = some (.type "type"))
    (ve_8 : PySem.W.keepIn K (.ref cc8) = true)
    (vn_8 : PySem.W.typeIn K (.ref vf8) = some (.type "function"))
    (vga_8 : PySem.W.findIn K (.ref cc8) "__getattribute__" = some (some (.builtin "BaseException.__getattribute__")))
    (vgg_8 : PySem.W.findIn K (.ref cc8) "__getattr__" = some none)
    (vhd_8 : PySem.W.hasDictIn K cc8 = true)
    (vno_8_key : PySem.W.findIn K (.ref cc8) "key" = some none)
    (va_9 : PySem.W.findIn K (.ref cc9) "__init__" = some (some (.ref vf9)))
    (vl_9 : K.lookup vf9 = some ⟨voc9, vod9, .func (PySem.W.ksFn "__init__" "BadSum.__init__" (defArgs (memS 10 0)) (defBody (memS 10 0)) (defScope (memS 10 0)) .none vkV9 vdc9 vpm9 van9 (.ref vcd9) vct9 vcc9), vsl9⟩)
    (vb_9 : PySem.W.codeIn K (.ref vcd9) "BadSum.__init__" = true)
    (vo_9 : K.lookup vcd9 = some ⟨vx9, vy9, .fields vv9, vz9⟩)
    (vp_9 : vv9[2]? = some (.str vfi9 vtf9))
    (vq_9 : ((l.prog.main.file : Str) == vfi9) = true)
    (vr_9 : K.lookup vcc9 = some ⟨vu9, vw9, .cell (some (.ref cc9)), vt9⟩)
    (vm_9 : PySem.W.ks_superIn K cc9 cc9 "__init__" = some (some (.builtin "ValueError.__init__")))
    (vB_9 : PySem.W.subIn K (.ref cc9) (.type "ValueError") = some true)
    (vg_9 : PySem.W.excInitIn K cc9 [.type "ValueError", .type "Exception", .type "BaseException", .type "object"] "ValueError.__new__" = true)
    (vh_9 : oexB K cc9 = true)
    (vs_9 : PySem.W.findIn K (.ref cc9) "__setattr__" = some (some (.builtin "object.__setattr__")))
    (vc_9 : PySem.W.subIn K (.ref cc9) (.type "BaseException") = some true)
    (vd_9 : PySem.W.typeIn K (.ref cc9) = some (.type "type"))
    (ve_9 : PySem.W.keepIn K (.ref cc9) = true)
    (vn_9 : PySem.W.typeIn K (.ref vf9) = some (.type "function"))
    (vga_9 : PySem.W.findIn K (.ref cc9) "__getattribute__" = some (some (.builtin "BaseException.__getattribute__")))
    (vgg_9 : PySem.W.findIn K (.ref cc9) "__getattr__" = some none)
    (vhd_9 : PySem.W.hasDictIn K cc9 = true)
    (vno_9_total : PySem.W.findIn K (.ref cc9) "total" = some none)
    (va_10 : PySem.W.findIn K (.ref cc10) "__init__" = some (some (.ref vf10)))
    (vl_10 : K.lookup vf10 = some ⟨voc10, vod10, .func (PySem.W.ksFn "__init__" "NoWeight.__init__" (defArgs (memS 11 0)) (defBody (memS 11 0)) (defScope (memS 11 0)) .none vkV10 vdc10 vpm10 van10 (.ref vcd10) vct10 vcc10), vsl10⟩)
    (vb_10 : PySem.W.codeIn K (.ref vcd10) "NoWeight.__init__" = true)
    (vo_10 : K.lookup vcd10 = some ⟨vx10, vy10, .fields vv10, vz10⟩)
    (vp_10 : vv10[2]? = some (.str vfi10 vtf10))
    (vq_10 : ((l.prog.main.file : Str) == vfi10) = true)
    (vr_10 : K.lookup vcc10 = some ⟨vu10, vw10, .cell (some (.ref cc10)), vt10⟩)
    (vm_10 : PySem.W.ks_superIn K cc10 cc10 "__init__" = some (some (.builtin "ValueError.__init__")))
    (vB_10 : PySem.W.subIn K (.ref cc10) (.type "ValueError") = some true)
    (vg_10 : PySem.W.excInitIn K cc10 [.type "ValueError", .type "Exception", .type "BaseException", .type "object"] "ValueError.__new__" = true)
    (vh_10 : oexB K cc10 = true)
    (vs_10 : PySem.W.findIn K (.ref cc10) "__setattr__" = some (some (.builtin "object.__setattr__")))
    (vc_10 : PySem.W.subIn K (.ref cc10) (.type "BaseException") = some true)
    (vd_10 : PySem.W.typeIn K (.ref cc10) = some (.type "type"))
    (ve_10 : PySem.W.keepIn K (.ref cc10) = true)
    (vn_10 : PySem.W.typeIn K (.ref vf10) = some (.type "function"))
    (vga_10 : PySem.W.findIn K (.ref cc10) "__getattribute__" = some (some (.builtin "BaseException.__getattribute__")))
    (vgg_10 : PySem.W.findIn K (.ref cc10) "__getattr__" = some none)
    (vhd_10 : PySem.W.hasDictIn K cc10 = true)
    (vno_10_state : PySem.W.findIn K (.ref cc10) "state" = some none)
    (va_11 : PySem.W.findIn K (.ref cc11) "__init__" = some (some (.ref vf11)))
    (vl_11 : K.lookup vf11 = some ⟨voc11, vod11, .func (PySem.W.ksFn "__init__" "BadRow.__init__" (defArgs (memS 12 0)) (defBody (memS 12 0)) (defScope (memS 12 0)) .none vkV11 vdc11 vpm11 van11 (.ref vcd11) vct11 vcc11), vsl11⟩)
    (vb_11 : PySem.W.codeIn K (.ref vcd11) "BadRow.__init__" = true)
    (vo_11 : K.lookup vcd11 = some ⟨vx11, vy11, .fields vv11, vz11⟩)
    (vp_11 : vv11[2]? = some (.str vfi11 vtf11))
    (vq_11 : ((l.prog.main.file : Str) == vfi11) = true)
    (vr_11 : K.lookup vcc11 = some ⟨vu11, vw11, .cell (some (.ref cc11)), vt11⟩)
    (vm_11 : PySem.W.ks_superIn K cc11 cc11 "__init__" = some (some (.builtin "ValueError.__init__")))
    (vB_11 : PySem.W.subIn K (.ref cc11) (.type "ValueError") = some true)
    (vg_11 : PySem.W.excInitIn K cc11 [.type "ValueError", .type "Exception", .type "BaseException", .type "object"] "ValueError.__new__" = true)
    (vh_11 : oexB K cc11 = true)
    (vs_11 : PySem.W.findIn K (.ref cc11) "__setattr__" = some (some (.builtin "object.__setattr__")))
    (vc_11 : PySem.W.subIn K (.ref cc11) (.type "BaseException") = some true)
    (vd_11 : PySem.W.typeIn K (.ref cc11) = some (.type "type"))
    (ve_11 : PySem.W.keepIn K (.ref cc11) = true)
    (vn_11 : PySem.W.typeIn K (.ref vf11) = some (.type "function"))
    (vga_11 : PySem.W.findIn K (.ref cc11) "__getattribute__" = some (some (.builtin "BaseException.__getattribute__")))
    (vgg_11 : PySem.W.findIn K (.ref cc11) "__getattr__" = some none)
    (vhd_11 : PySem.W.hasDictIn K cc11 = true)
    (vno_11_value : PySem.W.findIn K (.ref cc11) "value" = some none)
    (va_12 : PySem.W.findIn K (.ref cc12) "__init__" = some (some (.ref vf12)))
    (vl_12 : K.lookup vf12 = some ⟨voc12, vod12, .func (PySem.W.ksFn "__init__" "BadTable.__init__" (defArgs (memS 13 0)) (defBody (memS 13 0)) (defScope (memS 13 0)) .none vkV12 vdc12 vpm12 van12 (.ref vcd12) vct12 vcc12), vsl12⟩)
    (vb_12 : PySem.W.codeIn K (.ref vcd12) "BadTable.__init__" = true)
    (vo_12 : K.lookup vcd12 = some ⟨vx12, vy12, .fields vv12, vz12⟩)
    (vp_12 : vv12[2]? = some (.str vfi12 vtf12))
    (vq_12 : ((l.prog.main.file : Str) == vfi12) = true)
    (vr_12 : K.lookup vcc12 = some ⟨vu12, vw12, .cell (some (.ref cc12)), vt12⟩)
    (vm_12 : PySem.W.ks_superIn K cc12 cc12 "__init__" = some (some (.builtin "ValueError.__init__")))
    (vB_12 : PySem.W.subIn K (.ref cc12) (.type "ValueError") = some true)
    (vg_12 : PySem.W.excInitIn K cc12 [.type "ValueError", .type "Exception", .type "BaseException", .type "object"] "ValueError.__new__" = true)
    (vh_12 : oexB K cc12 = true)
    (vs_12 : PySem.W.findIn K (.ref cc12) "__setattr__" = some (some (.builtin "object.__setattr__")))
    (vc_12 : PySem.W.subIn K (.ref cc12) (.type "BaseException") = some true)
    (vd_12 : PySem.W.typeIn K (.ref cc12) = some (.type "type"))
    (ve_12 : PySem.W.keepIn K (.ref cc12) = true)
    (vn_12 : PySem.W.typeIn K (.ref vf12) = some (.type "function"))
    (vga_12 : PySem.W.findIn K (.ref cc12) "__getattribute__" = some (some (.builtin "BaseException.__getattribute__")))
    (vgg_12 : PySem.W.findIn K (.ref cc12) "__getattr__" = some none)
    (vhd_12 : PySem.W.hasDictIn K cc12 = true)
    (vno_12_value : PySem.W.findIn K (.ref cc12) "value" = some none)
    (va_13 : PySem.W.findIn K (.ref cc13) "__init__" = some (some (.ref vf13)))
    (vl_13 : K.lookup vf13 = some ⟨voc13, vod13, .func (PySem.W.ksFn "__init__" "BadPlan.__init__" (defArgs (memS 14 0)) (defBody (memS 14 0)) (defScope (memS 14 0)) .none vkV13 vdc13 vpm13 van13 (.ref vcd13) vct13 vcc13), vsl13⟩)
    (vb_13 : PySem.W.codeIn K (.ref vcd13) "BadPlan.__init__" = true)
    (vo_13 : K.lookup vcd13 = some ⟨vx13, vy13, .fields vv13, vz13⟩)
    (vp_13 : vv13[2]? = some (.str vfi13 vtf13))
    (vq_13 : ((l.prog.main.file : Str) == vfi13) = true)
    (vr_13 : K.lookup vcc13 = some ⟨vu13, vw13, .cell (some (.ref cc13)), vt13⟩)
    (vm_13 : PySem.W.ks_superIn K cc13 cc13 "__init__" = some (some (.builtin "ValueError.__init__")))
    (vB_13 : PySem.W.subIn K (.ref cc13) (.type "ValueError") = some true)
    (vg_13 : PySem.W.excInitIn K cc13 [.type "ValueError", .type "Exception", .type "BaseException", .type "object"] "ValueError.__new__" = true)
    (vh_13 : oexB K cc13 = true)
    (vs_13 : PySem.W.findIn K (.ref cc13) "__setattr__" = some (some (.builtin "object.__setattr__")))
    (vc_13 : PySem.W.subIn K (.ref cc13) (.type "BaseException") = some true)
    (vd_13 : PySem.W.typeIn K (.ref cc13) = some (.type "type"))
    (ve_13 : PySem.W.keepIn K (.ref cc13) = true)
    (vn_13 : PySem.W.typeIn K (.ref vf13) = some (.type "function"))
    (vga_13 : PySem.W.findIn K (.ref cc13) "__getattribute__" = some (some (.builtin "BaseException.__getattribute__")))
    (vgg_13 : PySem.W.findIn K (.ref cc13) "__getattr__" = some none)
    (vhd_13 : PySem.W.hasDictIn K cc13 = true)
    (vno_13_value : PySem.W.findIn K (.ref cc13) "value" = some none)
    (va_14 : PySem.W.findIn K (.ref cc14) "__init__" = some (some (.ref vf14)))
    (vl_14 : K.lookup vf14 = some ⟨voc14, vod14, .func (PySem.W.ksFn "__init__" "BadPairs.__init__" (defArgs (memS 15 0)) (defBody (memS 15 0)) (defScope (memS 15 0)) .none vkV14 vdc14 vpm14 van14 (.ref vcd14) vct14 vcc14), vsl14⟩)
    (vb_14 : PySem.W.codeIn K (.ref vcd14) "BadPairs.__init__" = true)
    (vo_14 : K.lookup vcd14 = some ⟨vx14, vy14, .fields vv14, vz14⟩)
    (vp_14 : vv14[2]? = some (.str vfi14 vtf14))
    (vq_14 : ((l.prog.main.file : Str) == vfi14) = true)
    (vr_14 : K.lookup vcc14 = some ⟨vu14, vw14, .cell (some (.ref cc14)), vt14⟩)
    (vm_14 : PySem.W.ks_superIn K cc14 cc14 "__init__" = some (some (.builtin "ValueError.__init__")))
    (vB_14 : PySem.W.subIn K (.ref cc14) (.type "ValueError") = some true)
    (vg_14 : PySem.W.excInitIn K cc14 [.type "ValueError", .type "Exception", .type "BaseException", .type "object"] "ValueError.__new__" = true)
    (vh_14 : oexB K cc14 = true)
    (vs_14 : PySem.W.findIn K (.ref cc14) "__setattr__" = some (some (.builtin "object.__setattr__")))
    (vc_14 : PySem.W.subIn K (.ref cc14) (.type "BaseException") = some true)
    (vd_14 : PySem.W.typeIn K (.ref cc14) = some (.type "type"))
    (ve_14 : PySem.W.keepIn K (.ref cc14) = true)
    (vn_14 : PySem.W.typeIn K (.ref vf14) = some (.type "function"))
    (vga_14 : PySem.W.findIn K (.ref cc14) "__getattribute__" = some (some (.builtin "BaseException.__getattribute__")))
    (vgg_14 : PySem.W.findIn K (.ref cc14) "__getattr__" = some none)
    (vhd_14 : PySem.W.hasDictIn K cc14 = true)
    (vno_14_value : PySem.W.findIn K (.ref cc14) "value" = some none)
    (va_15 : PySem.W.findIn K (.ref cc15) "__init__" = some (some (.ref vf15)))
    (vl_15 : K.lookup vf15 = some ⟨voc15, vod15, .func (PySem.W.ksFn "__init__" "UnlikeStates.__init__" (defArgs (memS 16 0)) (defBody (memS 16 0)) (defScope (memS 16 0)) .none vkV15 vdc15 vpm15 van15 (.ref vcd15) vct15 vcc15), vsl15⟩)
    (vb_15 : PySem.W.codeIn K (.ref vcd15) "UnlikeStates.__init__" = true)
    (vo_15 : K.lookup vcd15 = some ⟨vx15, vy15, .fields vv15, vz15⟩)
    (vp_15 : vv15[2]? = some (.str vfi15 vtf15))
    (vq_15 : ((l.prog.main.file : Str) == vfi15) = true)
    (vr_15 : K.lookup vcc15 = some ⟨vu15, vw15, .cell (some (.ref cc15)), vt15⟩)
    (vm_15 : PySem.W.ks_superIn K cc15 cc15 "__init__" = some (some (.builtin "ValueError.__init__")))
    (vB_15 : PySem.W.subIn K (.ref cc15) (.type "ValueError") = some true)
    (vg_15 : PySem.W.excInitIn K cc15 [.type "ValueError", .type "Exception", .type "BaseException", .type "object"] "ValueError.__new__" = true)
    (vh_15 : oexB K cc15 = true)
    (vs_15 : PySem.W.findIn K (.ref cc15) "__setattr__" = some (some (.builtin "object.__setattr__")))
    (vc_15 : PySem.W.subIn K (.ref cc15) (.type "BaseException") = some true)
    (vd_15 : PySem.W.typeIn K (.ref cc15) = some (.type "type"))
    (ve_15 : PySem.W.keepIn K (.ref cc15) = true)
    (vn_15 : PySem.W.typeIn K (.ref vf15) = some (.type "function"))
    (vga_15 : PySem.W.findIn K (.ref cc15) "__getattribute__" = some (some (.builtin "BaseException.__getattribute__")))
    (vgg_15 : PySem.W.findIn K (.ref cc15) "__getattr__" = some none)
    (vhd_15 : PySem.W.hasDictIn K cc15 = true)
    (vno_15_one : PySem.W.findIn K (.ref cc15) "one" = some none)
    (vno_15_other : PySem.W.findIn K (.ref cc15) "other" = some none)
    (va_16 : PySem.W.findIn K (.ref cc16) "__init__" = some (some (.ref vf16)))
    (vl_16 : K.lookup vf16 = some ⟨voc16, vod16, .func (PySem.W.ksFn "__init__" "UnlikeWeights.__init__" (defArgs (memS 17 0)) (defBody (memS 17 0)) (defScope (memS 17 0)) .none vkV16 vdc16 vpm16 van16 (.ref vcd16) vct16 vcc16), vsl16⟩)
    (vb_16 : PySem.W.codeIn K (.ref vcd16) "UnlikeWeights.__init__" = true)
    (vo_16 : K.lookup vcd16 = some ⟨vx16, vy16, .fields vv16, vz16⟩)
    (vp_16 : vv16[2]? = some (.str vfi16 vtf16))
    (vq_16 : ((l.prog.main.file : Str) == vfi16) = true)
    (vr_16 : K.lookup vcc16 = some ⟨vu16, vw16, .cell (some (.ref cc16)), vt16⟩)
    (vm_16 : PySem.W.ks_superIn K cc16 cc16 "__init__" = some (some (.builtin "ValueError.__init__")))
    (vB_16 : PySem.W.subIn K (.ref cc16) (.type "ValueError") = some true)
    (vg_16 : PySem.W.excInitIn K cc16 [.type "ValueError", .type "Exception", .type "BaseException", .type "object"] "ValueError.__new__" = true)
    (vh_16 : oexB K cc16 = true)
    (vs_16 : PySem.W.findIn K (.ref cc16) "__setattr__" = some (some (.builtin "object.__setattr__")))
    (vc_16 : PySem.W.subIn K (.ref cc16) (.type "BaseException") = some true)
    (vd_16 : PySem.W.typeIn K (.ref cc16) = some (.type "type"))
    (ve_16 : PySem.W.keepIn K (.ref cc16) = true)
    (vn_16 : PySem.W.typeIn K (.ref vf16) = some (.type "function"))
    (vga_16 : PySem.W.findIn K (.ref cc16) "__getattribute__" = some (some (.builtin "BaseException.__getattribute__")))
    (vgg_16 : PySem.W.findIn K (.ref cc16) "__getattr__" = some none)
    (vhd_16 : PySem.W.hasDictIn K cc16 = true)
    (vno_16_one : PySem.W.findIn K (.ref cc16) "one" = some none)
    (vno_16_other : PySem.W.findIn K (.ref cc16) "other" = some none)
    (va_17 : PySem.W.findIn K (.ref cc17) "__init__" = some (some (.ref vf17)))
    (vl_17 : K.lookup vf17 = some ⟨voc17, vod17, .func (PySem.W.ksFn "__init__" "NoNews.__init__" (defArgs (memS 18 0)) (defBody (memS 18 0)) (defScope (memS 18 0)) .none vkV17 vdc17 vpm17 van17 (.ref vcd17) vct17 vcc17), vsl17⟩)
    (vb_17 : PySem.W.codeIn K (.ref vcd17) "NoNews.__init__" = true)
    (vo_17 : K.lookup vcd17 = some ⟨vx17, vy17, .fields vv17, vz17⟩)
    (vp_17 : vv17[2]? = some (.str vfi17 vtf17))
    (vq_17 : ((l.prog.main.file : Str) == vfi17) = true)
    (vr_17 : K.lookup vcc17 = some ⟨vu17, vw17, .cell (some (.ref cc17)), vt17⟩)
    (vm_17 : PySem.W.ks_superIn K cc17 cc17 "__init__" = some (some (.builtin "ValueError.__init__")))
    (vB_17 : PySem.W.subIn K (.ref cc17) (.type "ValueError") = some true)
    (vg_17 : PySem.W.excInitIn K cc17 [.type "ValueError", .type "Exception", .type "BaseException", .type "object"] "ValueError.__new__" = true)
    (vh_17 : oexB K cc17 = true)
    (vs_17 : PySem.W.findIn K (.ref cc17) "__setattr__" = some (some (.builtin "object.__setattr__")))
    (vc_17 : PySem.W.subIn K (.ref cc17) (.type "BaseException") = some true)
    (vd_17 : PySem.W.typeIn K (.ref cc17) = some (.type "type"))
    (ve_17 : PySem.W.keepIn K (.ref cc17) = true)
    (vn_17 : PySem.W.typeIn K (.ref vf17) = some (.type "function"))
    (vga_17 : PySem.W.findIn K (.ref cc17) "__getattribute__" = some (some (.builtin "BaseException.__getattribute__")))
    (vgg_17 : PySem.W.findIn K (.ref cc17) "__getattr__" = some none)
    (vhd_17 : PySem.W.hasDictIn K cc17 = true)
    (vno_17_value : PySem.W.findIn K (.ref cc17) "value" = some none)
    (ieb : exT K [cc0, cc1, cc2, cc3, cc4, cc5, cc6, cc7, cc8, cc9, cc10, cc11, cc12, cc13, cc14, cc15, cc16, cc17, cc18, cc19] tE_ValueError = true)
    (ik_BadCount : kitT K (.ref cc7) [cc0, cc1, cc2, cc3, cc4, cc5, cc6, cc7, cc8, cc9, cc10, cc11, cc12, cc13, cc14, cc15, cc16, cc17, cc18, cc19] tE_BadCount = true)
    (ik_BadKey : kitT K (.ref cc8) [cc0, cc1, cc2, cc3, cc4, cc5, cc6, cc7, cc8, cc9, cc10, cc11, cc12, cc13, cc14, cc15, cc16, cc17, cc18, cc19] tE_BadKey = true)
    (ik_BadName : kitT K (.ref cc4) [cc0, cc1, cc2, cc3, cc4, cc5, cc6, cc7, cc8, cc9, cc10, cc11, cc12, cc13, cc14, cc15, cc16, cc17, cc18, cc19] tE_BadName = true)
    (ik_BadNumber : kitT K (.ref cc3) [cc0, cc1, cc2, cc3, cc4, cc5, cc6, cc7, cc8, cc9, cc10, cc11, cc12, cc13, cc14, cc15, cc16, cc17, cc18, cc19] tE_BadNumber = true)
    (ik_BadPairs : kitT K (.ref cc14) [cc0, cc1, cc2, cc3, cc4, cc5, cc6, cc7, cc8, cc9, cc10, cc11, cc12, cc13, cc14, cc15, cc16, cc17, cc18, cc19] tE_BadPairs = true)
    (ik_BadPlan : kitT K (.ref cc13) [cc0, cc1, cc2, cc3, cc4, cc5, cc6, cc7, cc8, cc9, cc10, cc11, cc12, cc13, cc14, cc15, cc16, cc17, cc18, cc19] tE_BadPlan = true)
    (ik_BadRow : kitT K (.ref cc11) [cc0, cc1, cc2, cc3, cc4, cc5, cc6, cc7, cc8, cc9, cc10, cc11, cc12, cc13, cc14, cc15, cc16, cc17, cc18, cc19] tE_BadRow = true)
    (ik_BadSum : kitT K (.ref cc9) [cc0, cc1, cc2, cc3, cc4, cc5, cc6, cc7, cc8, cc9, cc10, cc11, cc12, cc13, cc14, cc15, cc16, cc17, cc18, cc19] tE_BadSum = true)
    (ik_BadTable : kitT K (.ref cc12) [cc0, cc1, cc2, cc3, cc4, cc5, cc6, cc7, cc8, cc9, cc10, cc11, cc12, cc13, cc14, cc15, cc16, cc17, cc18, cc19] tE_BadTable = true)
    (ik_BadText : kitT K (.ref cc2) [cc0, cc1, cc2, cc3, cc4, cc5, cc6, cc7, cc8, cc9, cc10, cc11, cc12, cc13, cc14, cc15, cc16, cc17, cc18, cc19] tE_BadText = true)
    (ik_ByZero : kitT K (.ref cc1) [cc0, cc1, cc2, cc3, cc4, cc5, cc6, cc7, cc8, cc9, cc10, cc11, cc12, cc13, cc14, cc15, cc16, cc17, cc18, cc19] tE_ByZero = true)
    (ik_DuplicateName : kitT K (.ref cc5) [cc0, cc1, cc2, cc3, cc4, cc5, cc6, cc7, cc8, cc9, cc10, cc11, cc12, cc13, cc14, cc15, cc16, cc17, cc18, cc19] tE_DuplicateName = true)
    (ik_NewsError : kitT K (.ref cc0) [cc0, cc1, cc2, cc3, cc4, cc5, cc6, cc7, cc8, cc9, cc10, cc11, cc12, cc13, cc14, cc15, cc16, cc17, cc18, cc19] tE_NewsError = true)
    (ik_NoBound : kitT K (.ref cc18) [cc0, cc1, cc2, cc3, cc4, cc5, cc6, cc7, cc8, cc9, cc10, cc11, cc12, cc13, cc14, cc15, cc16, cc17, cc18, cc19] tE_NoBound = true)
    (ik_NoNews : kitT K (.ref cc17) [cc0, cc1, cc2, cc3, cc4, cc5, cc6, cc7, cc8, cc9, cc10, cc11, cc12, cc13, cc14, cc15, cc16, cc17, cc18, cc19] tE_NoNews = true)
    (ik_NoWeight : kitT K (.ref cc10) [cc0, cc1, cc2, cc3, cc4, cc5, cc6, cc7, cc8, cc9, cc10, cc11, cc12, cc13, cc14, cc15, cc16, cc17, cc18, cc19] tE_NoWeight = true)
    (ik_NothingToUndo : kitT K (.ref cc19) [cc0, cc1, cc2, cc3, cc4, cc5, cc6, cc7, cc8, cc9, cc10, cc11, cc12, cc13, cc14, cc15, cc16, cc17, cc18, cc19] tE_NothingToUndo = true)
    (ik_UnknownName : kitT K (.ref cc6) [cc0, cc1, cc2, cc3, cc4, cc5, cc6, cc7, cc8, cc9, cc10, cc11, cc12, cc13, cc14, cc15, cc16, cc17, cc18, cc19] tE_UnknownName = true)
    (ik_UnlikeStates : kitT K (.ref cc15) [cc0, cc1, cc2, cc3, cc4, cc5, cc6, cc7, cc8, cc9, cc10, cc11, cc12, cc13, cc14, cc15, cc16, cc17, cc18, cc19] tE_UnlikeStates = true)
    (ik_UnlikeWeights : kitT K (.ref cc16) [cc0, cc1, cc2, cc3, cc4, cc5, cc6, cc7, cc8, cc9, cc10, cc11, cc12, cc13, cc14, cc15, cc16, cc17, cc18, cc19] tE_UnlikeWeights = true)
    (ik_ValueError : kitT K (.type "ValueError") [cc0, cc1, cc2, cc3, cc4, cc5, cc6, cc7, cc8, cc9, cc10, cc11, cc12, cc13, cc14, cc15, cc16, cc17, cc18, cc19] tE_ValueError = true)
    (vtop : (l.prog.main.scope.names.lookup ("super" : Str)).isSome = false)
    (vsu : PySem.W.nsIn K mainGlobals "super" = some none)
    (vopq : PySem.W.nsIn K cStatics "thirdparty.any" = some none)
    (a0 : PySem.W.nsIn K mainGlobals "_law_start" = some (some (.ref f0)))
    (l0 : K.lookup f0 = some ⟨oc0, od0, .func (PySem.W.fnOf "_law_start" "_law_start" (defArgs s_law_start) (defBody s_law_start) (defScope s_law_start) .none kV0 dc0 pm0 an0 cd0 ct0), sl0⟩)
    (c0 : PySem.W.codeIn K cd0 "_law_start" = true)
    (k0 : PySem.W.keepIn K (.ref f0) = true)
    (a1 : PySem.W.nsIn K mainGlobals "_law_draw" = some (some (.ref f1)))
    (l1 : K.lookup f1 = some ⟨oc1, od1, .func (PySem.W.fnOf "_law_draw" "_law_draw" (defArgs s_law_draw) (defBody s_law_draw) (defScope s_law_draw) .none kV1 dc1 pm1 an1 cd1 ct1), sl1⟩)
    (c1 : PySem.W.codeIn K cd1 "_law_draw" = true)
    (k1 : PySem.W.keepIn K (.ref f1) = true)
    (a2 : PySem.W.nsIn K mainGlobals "_law_bare" = some (some (.ref f2)))
    (l2 : K.lookup f2 = some ⟨oc2, od2, .func (PySem.W.fnOf "_law_bare" "_law_bare" (defArgs s_law_bare) (defBody s_law_bare) (defScope s_law_bare) .none kV2 dc2 pm2 an2 cd2 ct2), sl2⟩)
    (c2 : PySem.W.codeIn K cd2 "_law_bare" = true)
    (k2 : PySem.W.keepIn K (.ref f2) = true)
    (a3 : PySem.W.nsIn K mainGlobals "_law_values" = some (some (.ref f3)))
    (l3 : K.lookup f3 = some ⟨oc3, od3, .func (PySem.W.fnOf "_law_values" "_law_values" (defArgs s_law_values) (defBody s_law_values) (defScope s_law_values) .none kV3 dc3 pm3 an3 cd3 ct3), sl3⟩)
    (c3 : PySem.W.codeIn K cd3 "_law_values" = true)
    (k3 : PySem.W.keepIn K (.ref f3) = true)
    (a4 : PySem.W.nsIn K mainGlobals "_law_names" = some (some (.ref f4)))
    (l4 : K.lookup f4 = some ⟨oc4, od4, .func (PySem.W.fnOf "_law_names" "_law_names" (defArgs s_law_names) (defBody s_law_names) (defScope s_law_names) .none kV4 dc4 pm4 an4 cd4 ct4), sl4⟩)
    (c4 : PySem.W.codeIn K cd4 "_law_names" = true)
    (k4 : PySem.W.keepIn K (.ref f4) = true)
    (a5 : PySem.W.nsIn K mainGlobals "_law_two" = some (some (.ref f5)))
    (l5 : K.lookup f5 = some ⟨oc5, od5, .func (PySem.W.fnOf "_law_two" "_law_two" (defArgs s_law_two) (defBody s_law_two) (defScope s_law_two) .none kV5 dc5 pm5 an5 cd5 ct5), sl5⟩)
    (c5 : PySem.W.codeIn K cd5 "_law_two" = true)
    (k5 : PySem.W.keepIn K (.ref f5) = true)
    (a6 : PySem.W.nsIn K mainGlobals "_law_kinds" = some (some (.ref f6)))
    (l6 : K.lookup f6 = some ⟨oc6, od6, .func (PySem.W.fnOf "_law_kinds" "_law_kinds" (defArgs s_law_kinds) (defBody s_law_kinds) (defScope s_law_kinds) .none kV6 dc6 pm6 an6 cd6 ct6), sl6⟩)
    (c6 : PySem.W.codeIn K cd6 "_law_kinds" = true)
    (k6 : PySem.W.keepIn K (.ref f6) = true)
    (a7 : PySem.W.nsIn K mainGlobals "_law_fields_right" = some (some (.ref f7)))
    (l7 : K.lookup f7 = some ⟨oc7, od7, .func (PySem.W.fnOf "_law_fields_right" "_law_fields_right" (defArgs s_law_fields_right) (defBody s_law_fields_right) (defScope s_law_fields_right) .none kV7 dc7 pm7 an7 cd7 ct7), sl7⟩)
    (c7 : PySem.W.codeIn K cd7 "_law_fields_right" = true)
    (k7 : PySem.W.keepIn K (.ref f7) = true)
    (a8 : PySem.W.nsIn K mainGlobals "_law_very_right" = some (some (.ref f8)))
    (l8 : K.lookup f8 = some ⟨oc8, od8, .func (PySem.W.fnOf "_law_very_right" "_law_very_right" (defArgs s_law_very_right) (defBody s_law_very_right) (defScope s_law_very_right) .none kV8 dc8 pm8 an8 cd8 ct8), sl8⟩)
    (c8 : PySem.W.codeIn K cd8 "_law_very_right" = true)
    (k8 : PySem.W.keepIn K (.ref f8) = true)
    (a9 : PySem.W.nsIn K mainGlobals "law" = some (some (.ref f9)))
    (l9 : K.lookup f9 = some ⟨oc9, od9, .func (PySem.W.fnOf "law" "law" (defArgs s_the_law) (defBody s_the_law) (defScope s_the_law) .none kV9 dc9 pm9 an9 cd9 ct9), sl9⟩)
    (c9 : PySem.W.codeIn K cd9 "law" = true)
    (k9 : PySem.W.keepIn K (.ref f9) = true)
    (z_ValueError : PySem.W.nsIn K mainGlobals "ValueError" = some none)
    (z_abs : PySem.W.nsIn K mainGlobals "abs" = some none)
    (z_int : PySem.W.nsIn K mainGlobals "int" = some none)
    (z_isinstance : PySem.W.nsIn K mainGlobals "isinstance" = some none)
    (z_len : PySem.W.nsIn K mainGlobals "len" = some none)
    (z_list : PySem.W.nsIn K mainGlobals "list" = some none)
    (z_range : PySem.W.nsIn K mainGlobals "range" = some none)
    (z_repr : PySem.W.nsIn K mainGlobals "repr" = some none)
    : ∃ fd : FuncData, (∀ (s : Shared) (u : Value), BindsTo s fd ⟨[u], []⟩ [("_law_script", u)]) ∧ ∃ g : Gc, g.K = K ∧ g.exa = none ∧ ∀ base : Heap, K.In base → base.Ns mainGlobals mg → FnG l.prog w K mg base 4 fa fd ["_law_script"] (SpF g 1 F_the_law) := by
  have e := hfa.symm.trans (PySem.W.mg_of X G a9)
  cases e
  let cl : Nat → Addr := fun i => ([cc0, cc1, cc2, cc3, cc4, cc5, cc6, cc7, cc8, cc9, cc10, cc11, cc12, cc13, cc14, cc15, cc16, cc17, cc18, cc19] : List Addr).getD i 0
  have T_e_BadText : ErrC K mg "BadText" (cl 2) := ⟨PySem.W.mg_of X G y2, ⟨_, _, _, _, PySem.F.excBase_ValueError, ea_2⟩, eb_2, ec_2, ed_2⟩
  have T_e_ByZero : ErrC K mg "ByZero" (cl 1) := ⟨PySem.W.mg_of X G y1, ⟨_, _, _, _, PySem.F.excBase_ValueError, ea_1⟩, eb_1, ec_1, ed_1⟩
  have T_e_NoBound : ErrC K mg "NoBound" (cl 18) := ⟨PySem.W.mg_of X G y18, ⟨_, _, _, _, PySem.F.excBase_ValueError, ea_18⟩, eb_18, ec_18, ed_18⟩
  have T_e_NothingToUndo : ErrC K mg "NothingToUndo" (cl 19) := ⟨PySem.W.mg_of X G y19, ⟨_, _, _, _, PySem.F.excBase_ValueError, ea_19⟩, eb_19, ec_19, ed_19⟩
  have T_ie_BadCount : ∀ q ∈ ([(0, false), (1, false), (2, false), (3, false), (4, false), (5, false), (6, false), (7, true), (8, false), (9, false), (10, false), (11, false), (12, false), (13, false), (14, false), (15, false), (16, false), (17, false), (18, false), (19, false)] : List (Nat × Bool)), ExcC K (cl q.1) ∧ PySem.W.kitOne K (.ref (cl q.1)) (.ref (cl 7)) = some q.2 := fun q hq => ⟨exT_ok (t := tE_BadCount) ieb rfl hq, kitT_ok ik_BadCount hq⟩
  have T_ie_BadKey : ∀ q ∈ ([(0, false), (1, false), (2, false), (3, false), (4, false), (5, false), (6, false), (7, false), (8, true), (9, false), (10, false), (11, false), (12, false), (13, false), (14, false), (15, false), (16, false), (17, false), (18, false), (19, false)] : List (Nat × Bool)), ExcC K (cl q.1) ∧ PySem.W.kitOne K (.ref (cl q.1)) (.ref (cl 8)) = some q.2 := fun q hq => ⟨exT_ok (t := tE_BadKey) ieb rfl hq, kitT_ok ik_BadKey hq⟩
  have T_ie_BadName : ∀ q ∈ ([(0, false), (1, false), (2, false), (3, false), (4, true), (5, false), (6, false), (7, false), (8, false), (9, false), (10, false), (11, false), (12, false), (13, false), (14, false), (15, false), (16, false), (17, false), (18, false), (19, false)] : List (Nat × Bool)), ExcC K (cl q.1) ∧ PySem.W.kitOne K (.ref (cl q.1)) (.ref (cl 4)) = some q.2 := fun q hq => ⟨exT_ok (t := tE_BadName) ieb rfl hq, kitT_ok ik_BadName hq⟩
  have T_ie_BadNumber : ∀ q ∈ ([(0, false), (1, false), (2, false), (3, true), (4, false), (5, false), (6, false), (7, false), (8, false), (9, false), (10, false), (11, false), (12, false), (13, false), (14, false), (15, false), (16, false), (17, false), (18, false), (19, false)] : List (Nat × Bool)), ExcC K (cl q.1) ∧ PySem.W.kitOne K (.ref (cl q.1)) (.ref (cl 3)) = some q.2 := fun q hq => ⟨exT_ok (t := tE_BadNumber) ieb rfl hq, kitT_ok ik_BadNumber hq⟩
  have T_ie_BadPairs : ∀ q ∈ ([(0, false), (1, false), (2, false), (3, false), (4, false), (5, false), (6, false), (7, false), (8, false), (9, false), (10, false), (11, false), (12, false), (13, false), (14, true), (15, false), (16, false), (17, false), (18, false), (19, false)] : List (Nat × Bool)), ExcC K (cl q.1) ∧ PySem.W.kitOne K (.ref (cl q.1)) (.ref (cl 14)) = some q.2 := fun q hq => ⟨exT_ok (t := tE_BadPairs) ieb rfl hq, kitT_ok ik_BadPairs hq⟩
  have T_ie_BadPlan : ∀ q ∈ ([(0, false), (1, false), (2, false), (3, false), (4, false), (5, false), (6, false), (7, false), (8, false), (9, false), (10, false), (11, false), (12, false), (13, true), (14, false), (15, false), (16, false), (17, false), (18, false), (19, false)] : List (Nat × Bool)), ExcC K (cl q.1) ∧ PySem.W.kitOne K (.ref (cl q.1)) (.ref (cl 13)) = some q.2 := fun q hq => ⟨exT_ok (t := tE_BadPlan) ieb rfl hq, kitT_ok ik_BadPlan hq⟩
  have T_ie_BadRow : ∀ q ∈ ([(0, false), (1, false), (2, false), (3, false), (4, false), (5, false), (6, false), (7, false), (8, false), (9, false), (10, false), (11, true), (12, false), (13, false), (14, false), (15, false), (16, false), (17, false), (18, false), (19, false)] : List (Nat × Bool)), ExcC K (cl q.1) ∧ PySem.W.kitOne K (.ref (cl q.1)) (.ref (cl 11)) = some q.2 := fun q hq => ⟨exT_ok (t := tE_BadRow) ieb rfl hq, kitT_ok ik_BadRow hq⟩
  have T_ie_BadSum : ∀ q ∈ ([(0, false), (1, false), (2, false), (3, false), (4, false), (5, false), (6, false), (7, false), (8, false), (9, true), (10, false), (11, false), (12, false), (13, false), (14, false), (15, false), (16, false), (17, false), (18, false), (19, false)] : List (Nat × Bool)), ExcC K (cl q.1) ∧ PySem.W.kitOne K (.ref (cl q.1)) (.ref (cl 9)) = some q.2 := fun q hq => ⟨exT_ok (t := tE_BadSum) ieb rfl hq, kitT_ok ik_BadSum hq⟩
  have T_ie_BadTable : ∀ q ∈ ([(0, false), (1, false), (2, false), (3, false), (4, false), (5, false), (6, false), (7, false), (8, false), (9, false), (10, false), (11, false), (12, true), (13, false), (14, false), (15, false), (16, false), (17, false), (18, false), (19, false)] : List (Nat × Bool)), ExcC K (cl q.1) ∧ PySem.W.kitOne K (.ref (cl q.1)) (.ref (cl 12)) = some q.2 := fun q hq => ⟨exT_ok (t := tE_BadTable) ieb rfl hq, kitT_ok ik_BadTable hq⟩
  have T_ie_BadText : ∀ q ∈ ([(0, false), (1, false), (2, true), (3, false), (4, false), (5, false), (6, false), (7, false), (8, false), (9, false), (10, false), (11, false), (12, false), (13, false), (14, false), (15, false), (16, false), (17, false), (18, false), (19, false)] : List (Nat × Bool)), ExcC K (cl q.1) ∧ PySem.W.kitOne K (.ref (cl q.1)) (.ref (cl 2)) = some q.2 := fun q hq => ⟨exT_ok (t := tE_BadText) ieb rfl hq, kitT_ok ik_BadText hq⟩
  have T_ie_ByZero : ∀ q ∈ ([(0, false), (1, true), (2, false), (3, false), (4, false), (5, false), (6, false), (7, false), (8, false), (9, false), (10, false), (11, false), (12, false), (13, false), (14, false), (15, false), (16, false), (17, false), (18, false), (19, false)] : List (Nat × Bool)), ExcC K (cl q.1) ∧ PySem.W.kitOne K (.ref (cl q.1)) (.ref (cl 1)) = some q.2 := fun q hq => ⟨exT_ok (t := tE_ByZero) ieb rfl hq, kitT_ok ik_ByZero hq⟩
  have T_ie_DuplicateName : ∀ q ∈ ([(0, false), (1, false), (2, false), (3, false), (4, false), (5, true), (6, false), (7, false), (8, false), (9, false), (10, false), (11, false), (12, false), (13, false), (14, false), (15, false), (16, false), (17, false), (18, false), (19, false)] : List (Nat × Bool)), ExcC K (cl q.1) ∧ PySem.W.kitOne K (.ref (cl q.1)) (.ref (cl 5)) = some q.2 := fun q hq => ⟨exT_ok (t := tE_DuplicateName) ieb rfl hq, kitT_ok ik_DuplicateName hq⟩
  have T_ie_NewsError : ∀ q ∈ ([(0, true), (1, true), (2, true), (3, true), (4, true), (5, true), (6, true), (7, true), (8, true), (9, true), (10, true), (11, true), (12, true), (13, true), (14, true), (15, true), (16, true), (17, true), (18, true), (19, true)] : List (Nat × Bool)), ExcC K (cl q.1) ∧ PySem.W.kitOne K (.ref (cl q.1)) (.ref (cl 0)) = some q.2 := fun q hq => ⟨exT_ok (t := tE_NewsError) ieb rfl hq, kitT_ok ik_NewsError hq⟩
  have T_ie_NoBound : ∀ q ∈ ([(0, false), (1, false), (2, false), (3, false), (4, false), (5, false), (6, false), (7, false), (8, false), (9, false), (10, false), (11, false), (12, false), (13, false), (14, false), (15, false), (16, false), (17, false), (18, true), (19, false)] : List (Nat × Bool)), ExcC K (cl q.1) ∧ PySem.W.kitOne K (.ref (cl q.1)) (.ref (cl 18)) = some q.2 := fun q hq => ⟨exT_ok (t := tE_NoBound) ieb rfl hq, kitT_ok ik_NoBound hq⟩
  have T_ie_NoNews : ∀ q ∈ ([(0, false), (1, false), (2, false), (3, false), (4, false), (5, false), (6, false), (7, false), (8, false), (9, false), (10, false), (11, false), (12, false), (13, false), (14, false), (15, false), (16, false), (17, true), (18, false), (19, false)] : List (Nat × Bool)), ExcC K (cl q.1) ∧ PySem.W.kitOne K (.ref (cl q.1)) (.ref (cl 17)) = some q.2 := fun q hq => ⟨exT_ok (t := tE_NoNews) ieb rfl hq, kitT_ok ik_NoNews hq⟩
  have T_ie_NoWeight : ∀ q ∈ ([(0, false), (1, false), (2, false), (3, false), (4, false), (5, false), (6, false), (7, false), (8, false), (9, false), (10, true), (11, false), (12, false), (13, false), (14, false), (15, false), (16, false), (17, false), (18, false), (19, false)] : List (Nat × Bool)), ExcC K (cl q.1) ∧ PySem.W.kitOne K (.ref (cl q.1)) (.ref (cl 10)) = some q.2 := fun q hq => ⟨exT_ok (t := tE_NoWeight) ieb rfl hq, kitT_ok ik_NoWeight hq⟩
  have T_ie_NothingToUndo : ∀ q ∈ ([(0, false), (1, false), (2, false), (3, false), (4, false), (5, false), (6, false), (7, false), (8, false), (9, false), (10, false), (11, false), (12, false), (13, false), (14, false), (15, false), (16, false), (17, false), (18, false), (19, true)] : List (Nat × Bool)), ExcC K (cl q.1) ∧ PySem.W.kitOne K (.ref (cl q.1)) (.ref (cl 19)) = some q.2 := fun q hq => ⟨exT_ok (t := tE_NothingToUndo) ieb rfl hq, kitT_ok ik_NothingToUndo hq⟩
  have T_ie_UnknownName : ∀ q ∈ ([(0, false), (1, false), (2, false), (3, false), (4, false), (5, false), (6, true), (7, false), (8, false), (9, false), (10, false), (11, false), (12, false), (13, false), (14, false), (15, false), (16, false), (17, false), (18, false), (19, false)] : List (Nat × Bool)), ExcC K (cl q.1) ∧ PySem.W.kitOne K (.ref (cl q.1)) (.ref (cl 6)) = some q.2 := fun q hq => ⟨exT_ok (t := tE_UnknownName) ieb rfl hq, kitT_ok ik_UnknownName hq⟩
  have T_ie_UnlikeStates : ∀ q ∈ ([(0, false), (1, false), (2, false), (3, false), (4, false), (5, false), (6, false), (7, false), (8, false), (9, false), (10, false), (11, false), (12, false), (13, false), (14, false), (15, true), (16, false), (17, false), (18, false), (19, false)] : List (Nat × Bool)), ExcC K (cl q.1) ∧ PySem.W.kitOne K (.ref (cl q.1)) (.ref (cl 15)) = some q.2 := fun q hq => ⟨exT_ok (t := tE_UnlikeStates) ieb rfl hq, kitT_ok ik_UnlikeStates hq⟩
  have T_ie_UnlikeWeights : ∀ q ∈ ([(0, false), (1, false), (2, false), (3, false), (4, false), (5, false), (6, false), (7, false), (8, false), (9, false), (10, false), (11, false), (12, false), (13, false), (14, false), (15, false), (16, true), (17, false), (18, false), (19, false)] : List (Nat × Bool)), ExcC K (cl q.1) ∧ PySem.W.kitOne K (.ref (cl q.1)) (.ref (cl 16)) = some q.2 := fun q hq => ⟨exT_ok (t := tE_UnlikeWeights) ieb rfl hq, kitT_ok ik_UnlikeWeights hq⟩
  have T_ie_ValueError : ∀ q ∈ ([(0, true), (1, true), (2, true), (3, true), (4, true), (5, true), (6, true), (7, true), (8, true), (9, true), (10, true), (11, true), (12, true), (13, true), (14, true), (15, true), (16, true), (17, true), (18, true), (19, true)] : List (Nat × Bool)), ExcC K (cl q.1) ∧ PySem.W.kitOne K (.ref (cl q.1)) (.type "ValueError") = some q.2 := fun q hq => ⟨exT_ok (t := tE_ValueError) ieb rfl hq, kitT_ok ik_ValueError hq⟩
  have T_n_BadCount : mg "BadCount" = some (.ref (cl 7)) := PySem.W.mg_of X G y7
  have T_n_BadKey : mg "BadKey" = some (.ref (cl 8)) := PySem.W.mg_of X G y8
  have T_n_BadName : mg "BadName" = some (.ref (cl 4)) := PySem.W.mg_of X G y4
  have T_n_BadNumber : mg "BadNumber" = some (.ref (cl 3)) := PySem.W.mg_of X G y3
  have T_n_BadPairs : mg "BadPairs" = some (.ref (cl 14)) := PySem.W.mg_of X G y14
  have T_n_BadPlan : mg "BadPlan" = some (.ref (cl 13)) := PySem.W.mg_of X G y13
  have T_n_BadRow : mg "BadRow" = some (.ref (cl 11)) := PySem.W.mg_of X G y11
  have T_n_BadSum : mg "BadSum" = some (.ref (cl 9)) := PySem.W.mg_of X G y9
  have T_n_BadTable : mg "BadTable" = some (.ref (cl 12)) := PySem.W.mg_of X G y12
  have T_n_BadText : mg "BadText" = some (.ref (cl 2)) := PySem.W.mg_of X G y2
  have T_n_ByZero : mg "ByZero" = some (.ref (cl 1)) := PySem.W.mg_of X G y1
  have T_n_DuplicateName : mg "DuplicateName" = some (.ref (cl 5)) := PySem.W.mg_of X G y5
  have T_n_NewsError : mg "NewsError" = some (.ref (cl 0)) := PySem.W.mg_of X G y0
  have T_n_NoBound : mg "NoBound" = some (.ref (cl 18)) := PySem.W.mg_of X G y18
  have T_n_NoNews : mg "NoNews" = some (.ref (cl 17)) := PySem.W.mg_of X G y17
  have T_n_NoWeight : mg "NoWeight" = some (.ref (cl 10)) := PySem.W.mg_of X G y10
  have T_n_NothingToUndo : mg "NothingToUndo" = some (.ref (cl 19)) := PySem.W.mg_of X G y19
  have T_n_UnknownName : mg "UnknownName" = some (.ref (cl 6)) := PySem.W.mg_of X G y6
  have T_n_UnlikeStates : mg "UnlikeStates" = some (.ref (cl 15)) := PySem.W.mg_of X G y15
  have T_n_UnlikeWeights : mg "UnlikeWeights" = some (.ref (cl 16)) := PySem.W.mg_of X G y16
  have T_v_BadCount : ErrV l.prog K mg "BadCount" (cl 7) ["count"] := errV1_of sx_BadCount (errI_of va_7 vl_7 vb_7 vo_7 vp_7 vq_7 vr_7 vtop (PySem.W.mg_none_of X G vsu) vopq vm_7 vB_7 vg_7 vh_7 vs_7 vc_7 vd_7 ve_7 vn_7) (PySem.W.mg_of X G y7) vga_7 vgg_7 vhd_7 vno_7_count
  have T_v_BadKey : ErrV l.prog K mg "BadKey" (cl 8) ["key"] := errV1_of sx_BadKey (errI_of va_8 vl_8 vb_8 vo_8 vp_8 vq_8 vr_8 vtop (PySem.W.mg_none_of X G vsu) vopq vm_8 vB_8 vg_8 vh_8 vs_8 vc_8 vd_8 ve_8 vn_8) (PySem.W.mg_of X G y8) vga_8 vgg_8 vhd_8 vno_8_key
  have T_v_BadName : ErrV l.prog K mg "BadName" (cl 4) ["name"] := errV1_of sx_BadName (errI_of va_4 vl_4 vb_4 vo_4 vp_4 vq_4 vr_4 vtop (PySem.W.mg_none_of X G vsu) vopq vm_4 vB_4 vg_4 vh_4 vs_4 vc_4 vd_4 ve_4 vn_4) (PySem.W.mg_of X G y4) vga_4 vgg_4 vhd_4 vno_4_name
  have T_v_BadNumber : ErrV l.prog K mg "BadNumber" (cl 3) ["value"] := errV1_of sx_BadNumber (errI_of va_3 vl_3 vb_3 vo_3 vp_3 vq_3 vr_3 vtop (PySem.W.mg_none_of X G vsu) vopq vm_3 vB_3 vg_3 vh_3 vs_3 vc_3 vd_3 ve_3 vn_3) (PySem.W.mg_of X G y3) vga_3 vgg_3 vhd_3 vno_3_value
  have T_v_BadPairs : ErrV l.prog K mg "BadPairs" (cl 14) ["value"] := errV1_of sx_BadPairs (errI_of va_14 vl_14 vb_14 vo_14 vp_14 vq_14 vr_14 vtop (PySem.W.mg_none_of X G vsu) vopq vm_14 vB_14 vg_14 vh_14 vs_14 vc_14 vd_14 ve_14 vn_14) (PySem.W.mg_of X G y14) vga_14 vgg_14 vhd_14 vno_14_value
  have T_v_BadPlan : ErrV l.prog K mg "BadPlan" (cl 13) ["value"] := errV1_of sx_BadPlan (errI_of va_13 vl_13 vb_13 vo_13 vp_13 vq_13 vr_13 vtop (PySem.W.mg_none_of X G vsu) vopq vm_13 vB_13 vg_13 vh_13 vs_13 vc_13 vd_13 ve_13 vn_13) (PySem.W.mg_of X G y13) vga_13 vgg_13 vhd_13 vno_13_value
  have T_v_BadRow : ErrV l.prog K mg "BadRow" (cl 11) ["value"] := errV1_of sx_BadRow (errI_of va_11 vl_11 vb_11 vo_11 vp_11 vq_11 vr_11 vtop (PySem.W.mg_none_of X G vsu) vopq vm_11 vB_11 vg_11 vh_11 vs_11 vc_11 vd_11 ve_11 vn_11) (PySem.W.mg_of X G y11) vga_11 vgg_11 vhd_11 vno_11_value
  have T_v_BadSum : ErrV l.prog K mg "BadSum" (cl 9) ["total"] := errV1_of sx_BadSum (errI_of va_9 vl_9 vb_9 vo_9 vp_9 vq_9 vr_9 vtop (PySem.W.mg_none_of X G vsu) vopq vm_9 vB_9 vg_9 vh_9 vs_9 vc_9 vd_9 ve_9 vn_9) (PySem.W.mg_of X G y9) vga_9 vgg_9 vhd_9 vno_9_total
  have T_v_BadTable : ErrV l.prog K mg "BadTable" (cl 12) ["value"] := errV1_of sx_BadTable (errI_of va_12 vl_12 vb_12 vo_12 vp_12 vq_12 vr_12 vtop (PySem.W.mg_none_of X G vsu) vopq vm_12 vB_12 vg_12 vh_12 vs_12 vc_12 vd_12 ve_12 vn_12) (PySem.W.mg_of X G y12) vga_12 vgg_12 vhd_12 vno_12_value
  have T_v_DuplicateName : ErrV l.prog K mg "DuplicateName" (cl 5) ["name"] := errV1_of sx_DuplicateName (errI_of va_5 vl_5 vb_5 vo_5 vp_5 vq_5 vr_5 vtop (PySem.W.mg_none_of X G vsu) vopq vm_5 vB_5 vg_5 vh_5 vs_5 vc_5 vd_5 ve_5 vn_5) (PySem.W.mg_of X G y5) vga_5 vgg_5 vhd_5 vno_5_name
  have T_v_NoNews : ErrV l.prog K mg "NoNews" (cl 17) ["value"] := errV1_of sx_NoNews (errI_of va_17 vl_17 vb_17 vo_17 vp_17 vq_17 vr_17 vtop (PySem.W.mg_none_of X G vsu) vopq vm_17 vB_17 vg_17 vh_17 vs_17 vc_17 vd_17 ve_17 vn_17) (PySem.W.mg_of X G y17) vga_17 vgg_17 vhd_17 vno_17_value
  have T_v_NoWeight : ErrV l.prog K mg "NoWeight" (cl 10) ["state"] := errV1_of sx_NoWeight (errI_of va_10 vl_10 vb_10 vo_10 vp_10 vq_10 vr_10 vtop (PySem.W.mg_none_of X G vsu) vopq vm_10 vB_10 vg_10 vh_10 vs_10 vc_10 vd_10 ve_10 vn_10) (PySem.W.mg_of X G y10) vga_10 vgg_10 vhd_10 vno_10_state
  have T_v_UnknownName : ErrV l.prog K mg "UnknownName" (cl 6) ["name"] := errV1_of sx_UnknownName (errI_of va_6 vl_6 vb_6 vo_6 vp_6 vq_6 vr_6 vtop (PySem.W.mg_none_of X G vsu) vopq vm_6 vB_6 vg_6 vh_6 vs_6 vc_6 vd_6 ve_6 vn_6) (PySem.W.mg_of X G y6) vga_6 vgg_6 vhd_6 vno_6_name
  have T_v_UnlikeStates : ErrV l.prog K mg "UnlikeStates" (cl 15) ["other", "one"] := errV2_of sx_UnlikeStates (errI_of va_15 vl_15 vb_15 vo_15 vp_15 vq_15 vr_15 vtop (PySem.W.mg_none_of X G vsu) vopq vm_15 vB_15 vg_15 vh_15 vs_15 vc_15 vd_15 ve_15 vn_15) (PySem.W.mg_of X G y15) vga_15 vgg_15 vhd_15 vno_15_one vno_15_other
  have T_v_UnlikeWeights : ErrV l.prog K mg "UnlikeWeights" (cl 16) ["other", "one"] := errV2_of sx_UnlikeWeights (errI_of va_16 vl_16 vb_16 vo_16 vp_16 vq_16 vr_16 vtop (PySem.W.mg_none_of X G vsu) vopq vm_16 vB_16 vg_16 vh_16 vs_16 vc_16 vd_16 ve_16 vn_16) (PySem.W.mg_of X G y16) vga_16 vgg_16 vhd_16 vno_16_one vno_16_other
  have T_vk_BadCount : ErrK l.prog K mg "BadCount" (cl 7) ["count"] ["count"] [0] := errK1_of sx_BadCount (errI_of va_7 vl_7 vb_7 vo_7 vp_7 vq_7 vr_7 vtop (PySem.W.mg_none_of X G vsu) vopq vm_7 vB_7 vg_7 vh_7 vs_7 vc_7 vd_7 ve_7 vn_7) (PySem.W.mg_of X G y7) vno_7_count (fun s a ws hl => match ws, hl with | [_], _ => .of_eq rfl)
  have T_vk_BadKey : ErrK l.prog K mg "BadKey" (cl 8) ["key"] ["key"] [0] := errK1_of sx_BadKey (errI_of va_8 vl_8 vb_8 vo_8 vp_8 vq_8 vr_8 vtop (PySem.W.mg_none_of X G vsu) vopq vm_8 vB_8 vg_8 vh_8 vs_8 vc_8 vd_8 ve_8 vn_8) (PySem.W.mg_of X G y8) vno_8_key (fun s a ws hl => match ws, hl with | [_], _ => .of_eq rfl)
  have T_vk_BadName : ErrK l.prog K mg "BadName" (cl 4) ["name"] ["name"] [0] := errK1_of sx_BadName (errI_of va_4 vl_4 vb_4 vo_4 vp_4 vq_4 vr_4 vtop (PySem.W.mg_none_of X G vsu) vopq vm_4 vB_4 vg_4 vh_4 vs_4 vc_4 vd_4 ve_4 vn_4) (PySem.W.mg_of X G y4) vno_4_name (fun s a ws hl => match ws, hl with | [_], _ => .of_eq rfl)
  have T_vk_BadNumber : ErrK l.prog K mg "BadNumber" (cl 3) ["value"] ["value"] [0] := errK1_of sx_BadNumber (errI_of va_3 vl_3 vb_3 vo_3 vp_3 vq_3 vr_3 vtop (PySem.W.mg_none_of X G vsu) vopq vm_3 vB_3 vg_3 vh_3 vs_3 vc_3 vd_3 ve_3 vn_3) (PySem.W.mg_of X G y3) vno_3_value (fun s a ws hl => match ws, hl with | [_], _ => .of_eq rfl)
  have T_vk_BadPairs : ErrK l.prog K mg "BadPairs" (cl 14) ["value"] ["value"] [0] := errK1_of sx_BadPairs (errI_of va_14 vl_14 vb_14 vo_14 vp_14 vq_14 vr_14 vtop (PySem.W.mg_none_of X G vsu) vopq vm_14 vB_14 vg_14 vh_14 vs_14 vc_14 vd_14 ve_14 vn_14) (PySem.W.mg_of X G y14) vno_14_value (fun s a ws hl => match ws, hl with | [_], _ => .of_eq rfl)
  have T_vk_BadPlan : ErrK l.prog K mg "BadPlan" (cl 13) ["value"] ["value"] [0] := errK1_of sx_BadPlan (errI_of va_13 vl_13 vb_13 vo_13 vp_13 vq_13 vr_13 vtop (PySem.W.mg_none_of X G vsu) vopq vm_13 vB_13 vg_13 vh_13 vs_13 vc_13 vd_13 ve_13 vn_13) (PySem.W.mg_of X G y13) vno_13_value (fun s a ws hl => match ws, hl with | [_], _ => .of_eq rfl)
  have T_vk_BadRow : ErrK l.prog K mg "BadRow" (cl 11) ["value"] ["value"] [0] := errK1_of sx_BadRow (errI_of va_11 vl_11 vb_11 vo_11 vp_11 vq_11 vr_11 vtop (PySem.W.mg_none_of X G vsu) vopq vm_11 vB_11 vg_11 vh_11 vs_11 vc_11 vd_11 ve_11 vn_11) (PySem.W.mg_of X G y11) vno_11_value (fun s a ws hl => match ws, hl with | [_], _ => .of_eq rfl)
  have T_vk_BadSum : ErrK l.prog K mg "BadSum" (cl 9) ["total"] ["total"] [0] := errK1_of sx_BadSum (errI_of va_9 vl_9 vb_9 vo_9 vp_9 vq_9 vr_9 vtop (PySem.W.mg_none_of X G vsu) vopq vm_9 vB_9 vg_9 vh_9 vs_9 vc_9 vd_9 ve_9 vn_9) (PySem.W.mg_of X G y9) vno_9_total (fun s a ws hl => match ws, hl with | [_], _ => .of_eq rfl)
  have T_vk_BadTable : ErrK l.prog K mg "BadTable" (cl 12) ["value"] ["value"] [0] := errK1_of sx_BadTable (errI_of va_12 vl_12 vb_12 vo_12 vp_12 vq_12 vr_12 vtop (PySem.W.mg_none_of X G vsu) vopq vm_12 vB_12 vg_12 vh_12 vs_12 vc_12 vd_12 ve_12 vn_12) (PySem.W.mg_of X G y12) vno_12_value (fun s a ws hl => match ws, hl with | [_], _ => .of_eq rfl)
  have T_vk_DuplicateName : ErrK l.prog K mg "DuplicateName" (cl 5) ["name"] ["name"] [0] := errK1_of sx_DuplicateName (errI_of va_5 vl_5 vb_5 vo_5 vp_5 vq_5 vr_5 vtop (PySem.W.mg_none_of X G vsu) vopq vm_5 vB_5 vg_5 vh_5 vs_5 vc_5 vd_5 ve_5 vn_5) (PySem.W.mg_of X G y5) vno_5_name (fun s a ws hl => match ws, hl with | [_], _ => .of_eq rfl)
  have T_vk_NoNews : ErrK l.prog K mg "NoNews" (cl 17) ["value"] ["value"] [0] := errK1_of sx_NoNews (errI_of va_17 vl_17 vb_17 vo_17 vp_17 vq_17 vr_17 vtop (PySem.W.mg_none_of X G vsu) vopq vm_17 vB_17 vg_17 vh_17 vs_17 vc_17 vd_17 ve_17 vn_17) (PySem.W.mg_of X G y17) vno_17_value (fun s a ws hl => match ws, hl with | [_], _ => .of_eq rfl)
  have T_vk_NoWeight : ErrK l.prog K mg "NoWeight" (cl 10) ["state"] ["state"] [0] := errK1_of sx_NoWeight (errI_of va_10 vl_10 vb_10 vo_10 vp_10 vq_10 vr_10 vtop (PySem.W.mg_none_of X G vsu) vopq vm_10 vB_10 vg_10 vh_10 vs_10 vc_10 vd_10 ve_10 vn_10) (PySem.W.mg_of X G y10) vno_10_state (fun s a ws hl => match ws, hl with | [_], _ => .of_eq rfl)
  have T_vk_UnknownName : ErrK l.prog K mg "UnknownName" (cl 6) ["name"] ["name"] [0] := errK1_of sx_UnknownName (errI_of va_6 vl_6 vb_6 vo_6 vp_6 vq_6 vr_6 vtop (PySem.W.mg_none_of X G vsu) vopq vm_6 vB_6 vg_6 vh_6 vs_6 vc_6 vd_6 ve_6 vn_6) (PySem.W.mg_of X G y6) vno_6_name (fun s a ws hl => match ws, hl with | [_], _ => .of_eq rfl)
  have T_vk_UnlikeStates : ErrK l.prog K mg "UnlikeStates" (cl 15) ["other", "one"] ["other", "one"] [1, 0] := errK2_of sx_UnlikeStates (errI_of va_15 vl_15 vb_15 vo_15 vp_15 vq_15 vr_15 vtop (PySem.W.mg_none_of X G vsu) vopq vm_15 vB_15 vg_15 vh_15 vs_15 vc_15 vd_15 ve_15 vn_15) (PySem.W.mg_of X G y15) vno_15_one vno_15_other (fun s a ws hl => match ws, hl with | [_, _], _ => .of_eq rfl)
  have T_vk_UnlikeWeights : ErrK l.prog K mg "UnlikeWeights" (cl 16) ["other", "one"] ["other", "one"] [1, 0] := errK2_of sx_UnlikeWeights (errI_of va_16 vl_16 vb_16 vo_16 vp_16 vq_16 vr_16 vtop (PySem.W.mg_none_of X G vsu) vopq vm_16 vB_16 vg_16 vh_16 vs_16 vc_16 vd_16 ve_16 vn_16) (PySem.W.mg_of X G y16) vno_16_one vno_16_other (fun s a ws hl => match ws, hl with | [_, _], _ => .of_eq rfl)
  have T_xv_10_state : ∀ C ∈ ([10] : List Nat), XfC K (cl C) ∧ PySem.W.findIn K (.ref (cl C)) "state" = some none := by
    intro q hq
    simp only [List.mem_cons, List.not_mem_nil, or_false] at hq
    subst hq
    · exact ⟨⟨vga_10, vgg_10, vc_10, vhd_10⟩, vno_10_state⟩
  have T_xv_15a16_one : ∀ C ∈ ([15, 16] : List Nat), XfC K (cl C) ∧ PySem.W.findIn K (.ref (cl C)) "one" = some none := by
    intro q hq
    simp only [List.mem_cons, List.not_mem_nil, or_false] at hq
    rcases hq with rfl | rfl
    · exact ⟨⟨vga_15, vgg_15, vc_15, vhd_15⟩, vno_15_one⟩
    · exact ⟨⟨vga_16, vgg_16, vc_16, vhd_16⟩, vno_16_one⟩
  have T_xv_15a16_other : ∀ C ∈ ([15, 16] : List Nat), XfC K (cl C) ∧ PySem.W.findIn K (.ref (cl C)) "other" = some none := by
    intro q hq
    simp only [List.mem_cons, List.not_mem_nil, or_false] at hq
    rcases hq with rfl | rfl
    · exact ⟨⟨vga_15, vgg_15, vc_15, vhd_15⟩, vno_15_other⟩
    · exact ⟨⟨vga_16, vgg_16, vc_16, vhd_16⟩, vno_16_other⟩
  have T_xv_3a11a12a13a14a17_value : ∀ C ∈ ([3, 11, 12, 13, 14, 17] : List Nat), XfC K (cl C) ∧ PySem.W.findIn K (.ref (cl C)) "value" = some none := by
    intro q hq
    simp only [List.mem_cons, List.not_mem_nil, or_false] at hq
    rcases hq with rfl | rfl | rfl | rfl | rfl | rfl
    · exact ⟨⟨vga_3, vgg_3, vc_3, vhd_3⟩, vno_3_value⟩
    · exact ⟨⟨vga_11, vgg_11, vc_11, vhd_11⟩, vno_11_value⟩
    · exact ⟨⟨vga_12, vgg_12, vc_12, vhd_12⟩, vno_12_value⟩
    · exact ⟨⟨vga_13, vgg_13, vc_13, vhd_13⟩, vno_13_value⟩
    · exact ⟨⟨vga_14, vgg_14, vc_14, vhd_14⟩, vno_14_value⟩
    · exact ⟨⟨vga_17, vgg_17, vc_17, vhd_17⟩, vno_17_value⟩
  have T_xv_4a5a6_name : ∀ C ∈ ([4, 5, 6] : List Nat), XfC K (cl C) ∧ PySem.W.findIn K (.ref (cl C)) "name" = some none := by
    intro q hq
    simp only [List.mem_cons, List.not_mem_nil, or_false] at hq
    rcases hq with rfl | rfl | rfl
    · exact ⟨⟨vga_4, vgg_4, vc_4, vhd_4⟩, vno_4_name⟩
    · exact ⟨⟨vga_5, vgg_5, vc_5, vhd_5⟩, vno_5_name⟩
    · exact ⟨⟨vga_6, vgg_6, vc_6, vhd_6⟩, vno_6_name⟩
  have T_xv_7_count : ∀ C ∈ ([7] : List Nat), XfC K (cl C) ∧ PySem.W.findIn K (.ref (cl C)) "count" = some none := by
    intro q hq
    simp only [List.mem_cons, List.not_mem_nil, or_false] at hq
    subst hq
    · exact ⟨⟨vga_7, vgg_7, vc_7, vhd_7⟩, vno_7_count⟩
  have T_xv_8_key : ∀ C ∈ ([8] : List Nat), XfC K (cl C) ∧ PySem.W.findIn K (.ref (cl C)) "key" = some none := by
    intro q hq
    simp only [List.mem_cons, List.not_mem_nil, or_false] at hq
    subst hq
    · exact ⟨⟨vga_8, vgg_8, vc_8, vhd_8⟩, vno_8_key⟩
  have T_xv_9_total : ∀ C ∈ ([9] : List Nat), XfC K (cl C) ∧ PySem.W.findIn K (.ref (cl C)) "total" = some none := by
    intro q hq
    simp only [List.mem_cons, List.not_mem_nil, or_false] at hq
    subst hq
    · exact ⟨⟨vga_9, vgg_9, vc_9, vhd_9⟩, vno_9_total⟩
  have T : Txt l.prog K mg cl := ⟨T_e_BadText, T_e_ByZero, T_e_NoBound, T_e_NothingToUndo, T_ie_BadCount, T_ie_BadKey, T_ie_BadName, T_ie_BadNumber, T_ie_BadPairs, T_ie_BadPlan, T_ie_BadRow, T_ie_BadSum, T_ie_BadTable, T_ie_BadText, T_ie_ByZero, T_ie_DuplicateName, T_ie_NewsError, T_ie_NoBound, T_ie_NoNews, T_ie_NoWeight, T_ie_NothingToUndo, T_ie_UnknownName, T_ie_UnlikeStates, T_ie_UnlikeWeights, T_ie_ValueError, T_n_BadCount, T_n_BadKey, T_n_BadName, T_n_BadNumber, T_n_BadPairs, T_n_BadPlan, T_n_BadRow, T_n_BadSum, T_n_BadTable, T_n_BadText, T_n_ByZero, T_n_DuplicateName, T_n_NewsError, T_n_NoBound, T_n_NoNews, T_n_NoWeight, T_n_NothingToUndo, T_n_UnknownName, T_n_UnlikeStates, T_n_UnlikeWeights, T_v_BadCount, T_v_BadKey, T_v_BadName, T_v_BadNumber, T_v_BadPairs, T_v_BadPlan, T_v_BadRow, T_v_BadSum, T_v_BadTable, T_v_DuplicateName, T_v_NoNews, T_v_NoWeight, T_v_UnknownName, T_v_UnlikeStates, T_v_UnlikeWeights, T_vk_BadCount, T_vk_BadKey, T_vk_BadName, T_vk_BadNumber, T_vk_BadPairs, T_vk_BadPlan, T_vk_BadRow, T_vk_BadSum, T_vk_BadTable, T_vk_DuplicateName, T_vk_NoNews, T_vk_NoWeight, T_vk_UnknownName, T_vk_UnlikeStates, T_vk_UnlikeWeights, T_xv_10_state, T_xv_15a16_one, T_xv_15a16_other, T_xv_3a11a12a13a14a17_value, T_xv_4a5a6_name, T_xv_7_count, T_xv_8_key, T_xv_9_total, PySem.W.mg_none_of X G z_ValueError, PySem.W.mg_none_of X G z_abs, PySem.W.mg_none_of X G z_int, PySem.W.mg_none_of X G z_isinstance, PySem.W.mg_none_of X G z_len, PySem.W.mg_none_of X G z_list, PySem.W.mg_none_of X G z_range, PySem.W.mg_none_of X G z_repr⟩
  have F0 := fun_mk (st := s_law_start) l0 c0 k0
  have F1 := fun_mk (st := s_law_draw) l1 c1 k1
  have F2 := fun_mk (st := s_law_bare) l2 c2 k2
  have F3 := fun_mk (st := s_law_values) l3 c3 k3
  have F4 := fun_mk (st := s_law_names) l4 c4 k4
  have F5 := fun_mk (st := s_law_two) l5 c5 k5
  have F6 := fun_mk (st := s_law_kinds) l6 c6 k6
  have F7 := fun_mk (st := s_law_fields_right) l7 c7 k7
  have F8 := fun_mk (st := s_law_very_right) l8 c8 k8
  have F9 := fun_mk (st := s_the_law) l9 c9 k9
  refine ⟨PySem.W.fnOf "law" "law" (defArgs s_the_law) (defBody s_the_law) (defScope s_the_law) .none kV9 dc9 pm9 an9 cd9 ct9, fun s v => .of_eq rfl, gg K mg cl, rfl, rfl, fun base _ _ => ?_⟩
  have O_law_start : Ow_law_start l.prog w K mg base cl := ⟨⟨f0, _, ok_law_start F0 T, PySem.W.mg_of X G a0, k0, F0.binds (ps := ["_law_script"]) fun _ _ _ _ _ _ us hl => match us, hl with | [_], _ => rfl,
    fun q hq => nomatch hq⟩⟩
  have O_law_draw : Ow_law_draw l.prog w K mg base cl := ⟨⟨f1, _, ok_law_draw F1 T, PySem.W.mg_of X G a1, k1, F1.binds (ps := ["_law_box", "_law_size"]) fun _ _ _ _ _ _ us hl => match us, hl with | [_, _], _ => rfl,
    fun q hq => nomatch hq⟩⟩
  have O_law_bare : Ow_law_bare l.prog w K mg base cl := ⟨⟨f2, _, ok_law_bare F2 T, PySem.W.mg_of X G a2, k2, F2.binds (ps := []) fun _ _ _ _ _ _ us hl => match us, hl with | [], _ => rfl,
    fun q hq => nomatch hq⟩⟩
  have O_law_values : Ow_law_values l.prog w K mg base cl := ⟨⟨f3, _, ok_law_values F3 T, PySem.W.mg_of X G a3, k3, F3.binds (ps := ["_law_thing"]) fun _ _ _ _ _ _ us hl => match us, hl with | [_], _ => rfl,
    fun q hq => nomatch hq⟩⟩
  have O_law_names : Ow_law_names l.prog w K mg base cl := ⟨⟨f4, _, ok_law_names F4 T, PySem.W.mg_of X G a4, k4, F4.binds (ps := ["_law_thing"]) fun _ _ _ _ _ _ us hl => match us, hl with | [_], _ => rfl,
    fun q hq => nomatch hq⟩⟩
  have O_law_two : Ow_law_two l.prog w K mg base cl := ⟨⟨f5, _, ok_law_two F5 T, PySem.W.mg_of X G a5, k5, F5.binds (ps := ["_law_thing", "_law_far"]) fun _ _ _ _ _ _ us hl => match us, hl with | [_, _], _ => rfl,
    fun q hq => nomatch hq⟩⟩
  have O_law_kinds : Ow_law_kinds l.prog w K mg base cl := ⟨⟨f6, _, ok_law_kinds F6 T, PySem.W.mg_of X G a6, k6, F6.binds (ps := ["_law_error"]) fun _ _ _ _ _ _ us hl => match us, hl with | [_], _ => rfl,
    fun q hq => nomatch hq⟩⟩
  have O_law_fields_right : Ow_law_fields_right l.prog w K mg base cl := ⟨⟨f7, _, ok_law_fields_right F7 T O_law_names O_law_two O_law_values, PySem.W.mg_of X G a7, k7, F7.binds (ps := ["_law_thing", "_law_far"]) fun _ _ _ _ _ _ us hl => match us, hl with | [_, _], _ => rfl,
    fun q hq => nomatch hq⟩⟩
  have O_law_very_right : Ow_law_very_right l.prog w K mg base cl := ⟨⟨f8, _, ok_law_very_right F8 T O_law_draw O_law_names O_law_two O_law_values, PySem.W.mg_of X G a8, k8, F8.binds (ps := ["_law_box"]) fun _ _ _ _ _ _ us hl => match us, hl with | [_], _ => rfl,
    fun q hq => nomatch hq⟩⟩
  exact ok_the_law F9 T O_law_bare O_law_draw O_law_fields_right O_law_kinds O_law_names O_law_start O_law_two O_law_values O_law_very_right
end K01
open PySem PySem.W PyProof.Rows in
set_option maxRecDepth 100000 in
set_option maxHeartbeats 0 in
theorem PySem.Challenge.cw_newsdeeds_k01_errors_holds : PySem.Challenge.rw_newsdeeds_k01_errors.Holds := by
  w_on; o_law; k_head; (case hw => w_witness2)
  k_fill
  refine Mi.walkG (l := PySem.Challenge.rw_newsdeeds_k01_errors) (n := 63) (k := 4) (x := "_law_script") (Fl := K01.F_the_law) rfl (by decide) rfl ⟨rfl, by decide, by decide⟩ (fun w h Y => PySem.W.kIn_of Y) ?F K01.plain
  case F =>
    intro w mg fa h KX G hmg
    refine' K01.all_mk KX G hmg ?y0 ?y1 ?y2 ?y3 ?y4 ?y5 ?y6 ?y7 ?y8 ?y9 ?y10 ?y11 ?y12 ?y13 ?y14 ?y15 ?y16 ?y17 ?y18 ?y19 ?ea_1 ?eb_1 ?ec_1 ?ed_1 ?ea_2 ?eb_2 ?ec_2 ?ed_2 ?ea_18 ?eb_18 ?ec_18 ?ed_18 ?ea_19 ?eb_19 ?ec_19 ?ed_19 ?va_3 ?vl_3 ?vb_3 ?vo_3 ?vp_3 ?vq_3 ?vr_3 ?vm_3 ?vB_3 ?vg_3 ?vh_3 ?vs_3 ?vc_3 ?vd_3 ?ve_3 ?vn_3 ?vga_3 ?vgg_3 ?vhd_3 ?vno_3_value ?va_4 ?vl_4 ?vb_4 ?vo_4 ?vp_4 ?vq_4 ?vr_4 ?vm_4 ?vB_4 ?vg_4 ?vh_4 ?vs_4 ?vc_4 ?vd_4 ?ve_4 ?vn_4 ?vga_4 ?vgg_4 ?vhd_4 ?vno_4_name ?va_5 ?vl_5 ?vb_5 ?vo_5 ?vp_5 ?vq_5 ?vr_5 ?vm_5 ?vB_5 ?vg_5 ?vh_5 ?vs_5 ?vc_5 ?vd_5 ?ve_5 ?vn_5 ?vga_5 ?vgg_5 ?vhd_5 ?vno_5_name ?va_6 ?vl_6 ?vb_6 ?vo_6 ?vp_6 ?vq_6 ?vr_6 ?vm_6 ?vB_6 ?vg_6 ?vh_6 ?vs_6 ?vc_6 ?vd_6 ?ve_6 ?vn_6 ?vga_6 ?vgg_6 ?vhd_6 ?vno_6_name ?va_7 ?vl_7 ?vb_7 ?vo_7 ?vp_7 ?vq_7 ?vr_7 ?vm_7 ?vB_7 ?vg_7 ?vh_7 ?vs_7 ?vc_7 ?vd_7 ?ve_7 ?vn_7 ?vga_7 ?vgg_7 ?vhd_7 ?vno_7_count ?va_8 ?vl_8 ?vb_8 ?vo_8 ?vp_8 ?vq_8 ?vr_8 ?vm_8 ?vB_8 ?vg_8 ?vh_8 ?vs_8 ?vc_8 ?vd_8 ?ve_8 ?vn_8 ?vga_8 ?vgg_8 ?vhd_8 ?vno_8_key ?va_9 ?vl_9 ?vb_9 ?vo_9 ?vp_9 ?vq_9 ?vr_9 ?vm_9 ?vB_9 ?vg_9 ?vh_9 ?vs_9 ?vc_9 ?vd_9 ?ve_9 ?vn_9 ?vga_9 ?vgg_9 ?vhd_9 ?vno_9_total ?va_10 ?vl_10 ?vb_10 ?vo_10 ?vp_10 ?vq_10 ?vr_10 ?vm_10 ?vB_10 ?vg_10 ?vh_10 ?vs_10 ?vc_10 ?vd_10 ?ve_10 ?vn_10 ?vga_10 ?vgg_10 ?vhd_10 ?vno_10_state ?va_11 ?vl_11 ?vb_11 ?vo_11 ?vp_11 ?vq_11 ?vr_11 ?vm_11 ?vB_11 ?vg_11 ?vh_11 ?vs_11 ?vc_11 ?vd_11 ?ve_11 ?vn_11 ?vga_11 ?vgg_11 ?vhd_11 ?vno_11_value ?va_12 ?vl_12 ?vb_12 ?vo_12 ?vp_12 ?vq_12 ?vr_12 ?vm_12 ?vB_12 ?vg_12 ?vh_12 ?vs_12 ?vc_12 ?vd_12 ?ve_12 ?vn_12 ?vga_12 ?vgg_12 ?vhd_12 ?vno_12_value ?va_13 ?vl_13 ?vb_13 ?vo_13 ?vp_13 ?vq_13 ?vr_13 ?vm_13 ?vB_13 ?vg_13 ?vh_13 ?vs_13 ?vc_13 ?vd_13 ?ve_13 ?vn_13 ?vga_13 ?vgg_13 ?vhd_13 ?vno_13_value ?va_14 ?vl_14 ?vb_14 ?vo_14 ?vp_14 ?vq_14 ?vr_14 ?vm_14 ?vB_14 ?vg_14 ?vh_14 ?vs_14 ?vc_14 ?vd_14 ?ve_14 ?vn_14 ?vga_14 ?vgg_14 ?vhd_14 ?vno_14_value ?va_15 ?vl_15 ?vb_15 ?vo_15 ?vp_15 ?vq_15 ?vr_15 ?vm_15 ?vB_15 ?vg_15 ?vh_15 ?vs_15 ?vc_15 ?vd_15 ?ve_15 ?vn_15 ?vga_15 ?vgg_15 ?vhd_15 ?vno_15_one ?vno_15_other ?va_16 ?vl_16 ?vb_16 ?vo_16 ?vp_16 ?vq_16 ?vr_16 ?vm_16 ?vB_16 ?vg_16 ?vh_16 ?vs_16 ?vc_16 ?vd_16 ?ve_16 ?vn_16 ?vga_16 ?vgg_16 ?vhd_16 ?vno_16_one ?vno_16_other ?va_17 ?vl_17 ?vb_17 ?vo_17 ?vp_17 ?vq_17 ?vr_17 ?vm_17 ?vB_17 ?vg_17 ?vh_17 ?vs_17 ?vc_17 ?vd_17 ?ve_17 ?vn_17 ?vga_17 ?vgg_17 ?vhd_17 ?vno_17_value ?ieb ?ik_BadCount ?ik_BadKey ?ik_BadName ?ik_BadNumber ?ik_BadPairs ?ik_BadPlan ?ik_BadRow ?ik_BadSum ?ik_BadTable ?ik_BadText ?ik_ByZero ?ik_DuplicateName ?ik_NewsError ?ik_NoBound ?ik_NoNews ?ik_NoWeight ?ik_NothingToUndo ?ik_UnknownName ?ik_UnlikeStates ?ik_UnlikeWeights ?ik_ValueError ?vtop ?vsu ?vopq ?a0 ?l0 ?c0 ?k0 ?a1 ?l1 ?c1 ?k1 ?a2 ?l2 ?c2 ?k2 ?a3 ?l3 ?c3 ?k3 ?a4 ?l4 ?c4 ?k4 ?a5 ?l5 ?c5 ?k5 ?a6 ?l6 ?c6 ?k6 ?a7 ?l7 ?c7 ?k7 ?a8 ?l8 ?c8 ?k8 ?a9 ?l9 ?c9 ?k9 ?z_ValueError ?z_abs ?z_int ?z_isinstance ?z_len ?z_list ?z_range ?z_repr
    (case y0 => k_is)
    (case y1 => k_is)
    (case y2 => k_is)
    (case y3 => k_is)
    (case y4 => k_is)
    (case y5 => k_is)
    (case y6 => k_is)
    (case y7 => k_is)
    (case y8 => k_is)
    (case y9 => k_is)
    (case y10 => k_is)
    (case y11 => k_is)
    (case y12 => k_is)
    (case y13 => k_is)
    (case y14 => k_is)
    (case y15 => k_is)
    (case y16 => k_is)
    (case y17 => k_is)
    (case y18 => k_is)
    (case y19 => k_is)
    (case ea_1 => k_exc)
    (case eb_1 => k_is)
    (case ec_1 => k_is)
    (case ed_1 => k_is)
    (case ea_2 => k_exc)
    (case eb_2 => k_is)
    (case ec_2 => k_is)
    (case ed_2 => k_is)
    (case ea_18 => k_exc)
    (case eb_18 => k_is)
    (case ec_18 => k_is)
    (case ed_18 => k_is)
    (case ea_19 => k_exc)
    (case eb_19 => k_is)
    (case ec_19 => k_is)
    (case ed_19 => k_is)
    (case va_3 => k_is)
    (case vl_3 => k_is)
    (case vb_3 => k_is)
    (case vo_3 => k_is)
    (case vp_3 => first | rfl | decide +kernel)
    (case vq_3 => first | rfl | decide +kernel)
    (case vr_3 => k_is)
    (case vm_3 => kernel_rfl)
    (case vB_3 => k_is)
    (case vg_3 => kernel_rfl)
    (case vh_3 => kernel_rfl)
    (case vs_3 => k_is)
    (case vc_3 => k_is)
    (case vd_3 => k_is)
    (case ve_3 => k_is)
    (case vn_3 => k_is)
    (case vga_3 => k_is)
    (case vgg_3 => k_is)
    (case vhd_3 => k_is)
    (case vno_3_value => k_is)
    (case va_4 => k_is)
    (case vl_4 => k_is)
    (case vb_4 => k_is)
    (case vo_4 => k_is)
    (case vp_4 => first | rfl | decide +kernel)
    (case vq_4 => first | rfl | decide +kernel)
    (case vr_4 => k_is)
    (case vm_4 => kernel_rfl)
    (case vB_4 => k_is)
    (case vg_4 => kernel_rfl)
    (case vh_4 => kernel_rfl)
    (case vs_4 => k_is)
    (case vc_4 => k_is)
    (case vd_4 => k_is)
    (case ve_4 => k_is)
    (case vn_4 => k_is)
    (case vga_4 => k_is)
    (case vgg_4 => k_is)
    (case vhd_4 => k_is)
    (case vno_4_name => k_is)
    (case va_5 => k_is)
    (case vl_5 => k_is)
    (case vb_5 => k_is)
    (case vo_5 => k_is)
    (case vp_5 => first | rfl | decide +kernel)
    (case vq_5 => first | rfl | decide +kernel)
    (case vr_5 => k_is)
    (case vm_5 => kernel_rfl)
    (case vB_5 => k_is)
    (case vg_5 => kernel_rfl)
    (case vh_5 => kernel_rfl)
    (case vs_5 => k_is)
    (case vc_5 => k_is)
    (case vd_5 => k_is)
    (case ve_5 => k_is)
    (case vn_5 => k_is)
    (case vga_5 => k_is)
    (case vgg_5 => k_is)
    (case vhd_5 => k_is)
    (case vno_5_name => k_is)
    (case va_6 => k_is)
    (case vl_6 => k_is)
    (case vb_6 => k_is)
    (case vo_6 => k_is)
    (case vp_6 => first | rfl | decide +kernel)
    (case vq_6 => first | rfl | decide +kernel)
    (case vr_6 => k_is)
    (case vm_6 => kernel_rfl)
    (case vB_6 => k_is)
    (case vg_6 => kernel_rfl)
    (case vh_6 => kernel_rfl)
    (case vs_6 => k_is)
    (case vc_6 => k_is)
    (case vd_6 => k_is)
    (case ve_6 => k_is)
    (case vn_6 => k_is)
    (case vga_6 => k_is)
    (case vgg_6 => k_is)
    (case vhd_6 => k_is)
    (case vno_6_name => k_is)
    (case va_7 => k_is)
    (case vl_7 => k_is)
    (case vb_7 => k_is)
    (case vo_7 => k_is)
    (case vp_7 => first | rfl | decide +kernel)
    (case vq_7 => first | rfl | decide +kernel)
    (case vr_7 => k_is)
    (case vm_7 => kernel_rfl)
    (case vB_7 => k_is)
    (case vg_7 => kernel_rfl)
    (case vh_7 => kernel_rfl)
    (case vs_7 => k_is)
    (case vc_7 => k_is)
    (case vd_7 => k_is)
    (case ve_7 => k_is)
    (case vn_7 => k_is)
    (case vga_7 => k_is)
    (case vgg_7 => k_is)
    (case vhd_7 => k_is)
    (case vno_7_count => k_is)
    (case va_8 => k_is)
    (case vl_8 => k_is)
    (case vb_8 => k_is)
    (case vo_8 => k_is)
    (case vp_8 => first | rfl | decide +kernel)
    (case vq_8 => first | rfl | decide +kernel)
    (case vr_8 => k_is)
    (case vm_8 => kernel_rfl)
    (case vB_8 => k_is)
    (case vg_8 => kernel_rfl)
    (case vh_8 => kernel_rfl)
    (case vs_8 => k_is)
    (case vc_8 => k_is)
    (case vd_8 => k_is)
    (case ve_8 => k_is)
    (case vn_8 => k_is)
    (case vga_8 => k_is)
    (case vgg_8 => k_is)
    (case vhd_8 => k_is)
    (case vno_8_key => k_is)
    (case va_9 => k_is)
    (case vl_9 => k_is)
    (case vb_9 => k_is)
    (case vo_9 => k_is)
    (case vp_9 => first | rfl | decide +kernel)
    (case vq_9 => first | rfl | decide +kernel)
    (case vr_9 => k_is)
    (case vm_9 => kernel_rfl)
    (case vB_9 => k_is)
    (case vg_9 => kernel_rfl)
    (case vh_9 => kernel_rfl)
    (case vs_9 => k_is)
    (case vc_9 => k_is)
    (case vd_9 => k_is)
    (case ve_9 => k_is)
    (case vn_9 => k_is)
    (case vga_9 => k_is)
    (case vgg_9 => k_is)
    (case vhd_9 => k_is)
    (case vno_9_total => k_is)
    (case va_10 => k_is)
    (case vl_10 => k_is)
    (case vb_10 => k_is)
    (case vo_10 => k_is)
    (case vp_10 => first | rfl | decide +kernel)
    (case vq_10 => first | rfl | decide +kernel)
    (case vr_10 => k_is)
    (case vm_10 => kernel_rfl)
    (case vB_10 => k_is)
    (case vg_10 => kernel_rfl)
    (case vh_10 => kernel_rfl)
    (case vs_10 => k_is)
    (case vc_10 => k_is)
    (case vd_10 => k_is)
    (case ve_10 => k_is)
    (case vn_10 => k_is)
    (case vga_10 => k_is)
    (case vgg_10 => k_is)
    (case vhd_10 => k_is)
    (case vno_10_state => k_is)
    (case va_11 => k_is)
    (case vl_11 => k_is)
    (case vb_11 => k_is)
    (case vo_11 => k_is)
    (case vp_11 => first | rfl | decide +kernel)
    (case vq_11 => first | rfl | decide +kernel)
    (case vr_11 => k_is)
    (case vm_11 => kernel_rfl)
    (case vB_11 => k_is)
    (case vg_11 => kernel_rfl)
    (case vh_11 => kernel_rfl)
    (case vs_11 => k_is)
    (case vc_11 => k_is)
    (case vd_11 => k_is)
    (case ve_11 => k_is)
    (case vn_11 => k_is)
    (case vga_11 => k_is)
    (case vgg_11 => k_is)
    (case vhd_11 => k_is)
    (case vno_11_value => k_is)
    (case va_12 => k_is)
    (case vl_12 => k_is)
    (case vb_12 => k_is)
    (case vo_12 => k_is)
    (case vp_12 => first | rfl | decide +kernel)
    (case vq_12 => first | rfl | decide +kernel)
    (case vr_12 => k_is)
    (case vm_12 => kernel_rfl)
    (case vB_12 => k_is)
    (case vg_12 => kernel_rfl)
    (case vh_12 => kernel_rfl)
    (case vs_12 => k_is)
    (case vc_12 => k_is)
    (case vd_12 => k_is)
    (case ve_12 => k_is)
    (case vn_12 => k_is)
    (case vga_12 => k_is)
    (case vgg_12 => k_is)
    (case vhd_12 => k_is)
    (case vno_12_value => k_is)
    (case va_13 => k_is)
    (case vl_13 => k_is)
    (case vb_13 => k_is)
    (case vo_13 => k_is)
    (case vp_13 => first | rfl | decide +kernel)
    (case vq_13 => first | rfl | decide +kernel)
    (case vr_13 => k_is)
    (case vm_13 => kernel_rfl)
    (case vB_13 => k_is)
    (case vg_13 => kernel_rfl)
    (case vh_13 => kernel_rfl)
    (case vs_13 => k_is)
    (case vc_13 => k_is)
    (case vd_13 => k_is)
    (case ve_13 => k_is)
    (case vn_13 => k_is)
    (case vga_13 => k_is)
    (case vgg_13 => k_is)
    (case vhd_13 => k_is)
    (case vno_13_value => k_is)
    (case va_14 => k_is)
    (case vl_14 => k_is)
    (case vb_14 => k_is)
    (case vo_14 => k_is)
    (case vp_14 => first | rfl | decide +kernel)
    (case vq_14 => first | rfl | decide +kernel)
    (case vr_14 => k_is)
    (case vm_14 => kernel_rfl)
    (case vB_14 => k_is)
    (case vg_14 => kernel_rfl)
    (case vh_14 => kernel_rfl)
    (case vs_14 => k_is)
    (case vc_14 => k_is)
    (case vd_14 => k_is)
    (case ve_14 => k_is)
    (case vn_14 => k_is)
    (case vga_14 => k_is)
    (case vgg_14 => k_is)
    (case vhd_14 => k_is)
    (case vno_14_value => k_is)
    (case va_15 => k_is)
    (case vl_15 => k_is)
    (case vb_15 => k_is)
    (case vo_15 => k_is)
    (case vp_15 => first | rfl | decide +kernel)
    (case vq_15 => first | rfl | decide +kernel)
    (case vr_15 => k_is)
    (case vm_15 => kernel_rfl)
    (case vB_15 => k_is)
    (case vg_15 => kernel_rfl)
    (case vh_15 => kernel_rfl)
    (case vs_15 => k_is)
    (case vc_15 => k_is)
    (case vd_15 => k_is)
    (case ve_15 => k_is)
    (case vn_15 => k_is)
    (case vga_15 => k_is)
    (case vgg_15 => k_is)
    (case vhd_15 => k_is)
    (case vno_15_one => k_is)
    (case vno_15_other => k_is)
    (case va_16 => k_is)
    (case vl_16 => k_is)
    (case vb_16 => k_is)
    (case vo_16 => k_is)
    (case vp_16 => first | rfl | decide +kernel)
    (case vq_16 => first | rfl | decide +kernel)
    (case vr_16 => k_is)
    (case vm_16 => kernel_rfl)
    (case vB_16 => k_is)
    (case vg_16 => kernel_rfl)
    (case vh_16 => kernel_rfl)
    (case vs_16 => k_is)
    (case vc_16 => k_is)
    (case vd_16 => k_is)
    (case ve_16 => k_is)
    (case vn_16 => k_is)
    (case vga_16 => k_is)
    (case vgg_16 => k_is)
    (case vhd_16 => k_is)
    (case vno_16_one => k_is)
    (case vno_16_other => k_is)
    (case va_17 => k_is)
    (case vl_17 => k_is)
    (case vb_17 => k_is)
    (case vo_17 => k_is)
    (case vp_17 => first | rfl | decide +kernel)
    (case vq_17 => first | rfl | decide +kernel)
    (case vr_17 => k_is)
    (case vm_17 => kernel_rfl)
    (case vB_17 => k_is)
    (case vg_17 => kernel_rfl)
    (case vh_17 => kernel_rfl)
    (case vs_17 => k_is)
    (case vc_17 => k_is)
    (case vd_17 => k_is)
    (case ve_17 => k_is)
    (case vn_17 => k_is)
    (case vga_17 => k_is)
    (case vgg_17 => k_is)
    (case vhd_17 => k_is)
    (case vno_17_value => k_is)
    (case ieb => kernel_rfl)
    (case ik_BadCount => kernel_rfl)
    (case ik_BadKey => kernel_rfl)
    (case ik_BadName => kernel_rfl)
    (case ik_BadNumber => kernel_rfl)
    (case ik_BadPairs => kernel_rfl)
    (case ik_BadPlan => kernel_rfl)
    (case ik_BadRow => kernel_rfl)
    (case ik_BadSum => kernel_rfl)
    (case ik_BadTable => kernel_rfl)
    (case ik_BadText => kernel_rfl)
    (case ik_ByZero => kernel_rfl)
    (case ik_DuplicateName => kernel_rfl)
    (case ik_NewsError => kernel_rfl)
    (case ik_NoBound => kernel_rfl)
    (case ik_NoNews => kernel_rfl)
    (case ik_NoWeight => kernel_rfl)
    (case ik_NothingToUndo => kernel_rfl)
    (case ik_UnknownName => kernel_rfl)
    (case ik_UnlikeStates => kernel_rfl)
    (case ik_UnlikeWeights => kernel_rfl)
    (case ik_ValueError => kernel_rfl)
    (case vtop => first | rfl | decide +kernel)
    (case vsu => k_is)
    (case vopq => k_is)
    (case a0 => k_is)
    (case l0 => k_is)
    (case c0 => k_is)
    (case k0 => k_is)
    (case a1 => k_is)
    (case l1 => k_is)
    (case c1 => k_is)
    (case k1 => k_is)
    (case a2 => k_is)
    (case l2 => k_is)
    (case c2 => k_is)
    (case k2 => k_is)
    (case a3 => k_is)
    (case l3 => k_is)
    (case c3 => k_is)
    (case k3 => k_is)
    (case a4 => k_is)
    (case l4 => k_is)
    (case c4 => k_is)
    (case k4 => k_is)
    (case a5 => k_is)
    (case l5 => k_is)
    (case c5 => k_is)
    (case k5 => k_is)
    (case a6 => k_is)
    (case l6 => k_is)
    (case c6 => k_is)
    (case k6 => k_is)
    (case a7 => k_is)
    (case l7 => k_is)
    (case c7 => k_is)
    (case k7 => k_is)
    (case a8 => k_is)
    (case l8 => k_is)
    (case c8 => k_is)
    (case k8 => k_is)
    (case a9 => k_is)
    (case l9 => k_is)
    (case c9 => k_is)
    (case k9 => k_is)
    (case z_ValueError => k_is)
    (case z_abs => k_is)
    (case z_int => k_is)
    (case z_isinstance => k_is)
    (case z_len => k_is)
    (case z_list => k_is)
    (case z_range => k_is)
    (case z_repr => k_is)
