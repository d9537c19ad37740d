import PyProof.Rows.All
import Wide.All
import OpenK.AllK
import Wide.FinOn
import HandS.ForMost
import HandS.More
import HandS.Conv
import HandS.Deep
import HandS.DictComp
import HandS.IsInst
import HandS.HeadHook2
import HandS.Codes
import HandS.Defaults
import HandS.OwnEq
import KE.KStateDown
import HandS.Head0
import HandS.Head1
import HandS.Head2
import HandS.HeadEnd
import HandS.HeadHook1
import PySem.Challenge.RW_headswap_k07_whole_rows_in_order
set_option Elab.async false
set_option linter.all false
set_option maxRecDepth 100000
set_option maxHeartbeats 0
namespace Qd
open PySem PySem.Spec L2
/-- a key of a dict -/
inductive Ky where
  | i (n : Int)
  | s (x : List Nat)
  deriving DecidableEq
def Ky.key : Ky → Key
  | .i n => .inl n
  | .s x => .inr ⟨x.toArray⟩
theorem Ky.key_inj : ∀ {a b : Ky}, a.key = b.key → a = b
  | .i n, .i m, h => by
    have e : n = m := Sum.inl.inj h
    rw [e]
  | .i n, .s x, h => nomatch h
  | .s x, .i n, h => nomatch h
  | .s x, .s y, h => by
    have e : (⟨x.toArray⟩ : Str) = ⟨y.toArray⟩ := Sum.inr.inj h
    have e2 : x.toArray = y.toArray := congrArg Str.cps e
    have e3 : x = y := by simpa using congrArg Array.toList e2
    rw [e3]
/-- data by value -/
inductive D where
  | non
  | bl (b : Bool)
  | int (i : Int)
  | str (x : List Nat)
  | tup (xs : List D)
  | lst (xs : List D)
  | dic (kvs : List (Ky × D))
  | obj (c : Str) (fs : List (Str × D))
  | scr (ns : List Int)
  | cls (c : Str)
  | ty (n : String)
mutual
def Rp (K : PySem.W.Frag) (H : Hp) : D → V → Prop
  | .non, v => v = .non
  | .bl b, v => v = .bl b
  | .int i, v => v = .int i
  | .str x, v => v = .str ⟨x.toArray⟩
  | .tup ds, v => ∃ a vs, v = .ref a ∧ SqT K H a vs ∧ Rps K H ds vs
  | .lst ds, v => ∃ a vs, v = .ref a ∧ H a = some (.lst vs) ∧ Rps K H ds vs
  | .dic kvs, v => ∃ a ks, v = .ref a ∧ H a = some (.dK ks) ∧ RpK K H kvs ks
  | .obj c fs, v => ∃ a dx gs, v = .ref a ∧ H a = some (.ins (He.ga K c) dx gs) ∧ RpF K H fs gs
  | .scr ns, v => ∃ a, v = .ref a ∧ SqL K H a (ns.map V.int)
  | .cls c, v => v = .ref (He.ga K c)
  | .ty n, v => v = .ty n
def Rps (K : PySem.W.Frag) (H : Hp) : List D → List V → Prop
  | [], vs => vs = []
  | d :: ds, vs => ∃ v r, vs = v :: r ∧ Rp K H d v ∧ Rps K H ds r
def RpK (K : PySem.W.Frag) (H : Hp) : List (Ky × D) → List (Key × V) → Prop
  | [], vs => vs = []
  | (k, d) :: ds, vs => ∃ v r, vs = (k.key, v) :: r ∧ Rp K H d v ∧ RpK K H ds r
def RpF (K : PySem.W.Frag) (H : Hp) : List (Str × D) → List (Str × V) → Prop
  | [], vs => vs = []
  | (k, d) :: ds, vs => ∃ v r, vs = (k, v) :: r ∧ Rp K H d v ∧ RpF K H ds r
end
theorem same_sqT {K : PySem.W.Frag} {H H' : Hp} {a : Addr} {xs : List V} (e : Same H H') (h : SqT K H a xs) : SqT K H' a xs := by
  rcases h with (h | ⟨o, h⟩) | h
  · exact .inl (.inl (e _ _ h))
  · exact .inl (.inr ⟨o, e _ _ h⟩)
  · exact .inr h
section
variable {K : PySem.W.Frag} {H H' : Hp}
mutual
theorem Rp.mono (e : Same H H') : ∀ (d : D) {v : V}, Rp K H d v → Rp K H' d v
  | .non, _, h => by simp only [Rp] at h ⊢; exact h
  | .bl _, _, h => by simp only [Rp] at h ⊢; exact h
  | .int _, _, h => by simp only [Rp] at h ⊢; exact h
  | .str _, _, h => by simp only [Rp] at h ⊢; exact h
  | .cls _, _, h => by simp only [Rp] at h ⊢; exact h
  | .ty _, _, h => by simp only [Rp] at h ⊢; exact h
  | .tup ds, _, h => by
    simp only [Rp] at h ⊢
    obtain ⟨a, vs, h1, h2, h3⟩ := h
    exact ⟨a, vs, h1, same_sqT e h2, Rps.mono e ds h3⟩
  | .lst ds, _, h => by
    simp only [Rp] at h ⊢
    obtain ⟨a, vs, h1, h2, h3⟩ := h
    exact ⟨a, vs, h1, e _ _ h2, Rps.mono e ds h3⟩
  | .dic kvs, _, h => by
    simp only [Rp] at h ⊢
    obtain ⟨a, ks, h1, h2, h3⟩ := h
    exact ⟨a, ks, h1, e _ _ h2, RpK.mono e kvs h3⟩
  | .obj c fs, _, h => by
    simp only [Rp] at h ⊢
    obtain ⟨a, dx, gs, h1, h2, h3⟩ := h
    exact ⟨a, dx, gs, h1, e _ _ h2, RpF.mono e fs h3⟩
  | .scr ns, _, h => by
    simp only [Rp] at h ⊢
    obtain ⟨a, h1, h2⟩ := h
    exact ⟨a, h1, e.seq h2⟩
theorem Rps.mono (e : Same H H') : ∀ (ds : List D) {vs : List V}, Rps K H ds vs → Rps K H' ds vs
  | [], _, h => by simp only [Rps] at h ⊢; exact h
  | d :: ds, _, h => by
    simp only [Rps] at h ⊢
    obtain ⟨v, r, h1, h2, h3⟩ := h
    exact ⟨v, r, h1, Rp.mono e d h2, Rps.mono e ds h3⟩
theorem RpK.mono (e : Same H H') : ∀ (ds : List (Ky × D)) {vs : List (Key × V)}, RpK K H ds vs → RpK K H' ds vs
  | [], _, h => by simp only [RpK] at h ⊢; exact h
  | (k, d) :: ds, _, h => by
    simp only [RpK] at h ⊢
    obtain ⟨v, r, h1, h2, h3⟩ := h
    exact ⟨v, r, h1, Rp.mono e d h2, RpK.mono e ds h3⟩
theorem RpF.mono (e : Same H H') : ∀ (ds : List (Str × D)) {vs : List (Str × V)}, RpF K H ds vs → RpF K H' ds vs
  | [], _, h => by simp only [RpF] at h ⊢; exact h
  | (k, d) :: ds, _, h => by
    simp only [RpF] at h ⊢
    obtain ⟨v, r, h1, h2, h3⟩ := h
    exact ⟨v, r, h1, Rp.mono e d h2, RpF.mono e ds h3⟩
end
end
/-- shared, owned, owned and handed in by the caller -/
inductive Kd where
  | sh | ow | pn
  deriving DecidableEq
abbrev Sl := Kd × D
abbrev En := List (Option Sl)
/-- what is fixed while a def runs: the objects that it must leave, the shared heap at its start, the addresses of the objects handed in -/
structure Fx where
  fm : Hp
  hs : Hp
  pa : Nat → Addr
def Own (K : PySem.W.Frag) (Hs H : Hp) (p : Addr) : D → Prop
  | .lst ds => ∃ vs, H p = some (.lst vs) ∧ Rps K Hs ds vs
  | .dic kvs => ∃ ks, H p = some (.dK ks) ∧ RpK K Hs kvs ks
  | .obj c fs => ∃ dx gs, H p = some (.ins (He.ga K c) dx gs) ∧ RpF K Hs fs gs
  | .tup ds => ∃ vs, H p = some (.tup vs) ∧ Rps K Hs ds vs
  | _ => False
theorem Own.mono {K : PySem.W.Frag} {Hs Hs' H H' : Hp} {p : Addr} (e : Same Hs Hs') (h : H' p = H p) : ∀ {d : D}, Own K Hs H p d → Own K Hs' H' p d
  | .lst ds, ⟨vs, a, b⟩ => ⟨vs, h.trans a, Rps.mono e _ b⟩
  | .tup ds, ⟨vs, a, b⟩ => ⟨vs, h.trans a, Rps.mono e _ b⟩
  | .dic ds, ⟨vs, a, b⟩ => ⟨vs, h.trans a, RpK.mono e _ b⟩
  | .obj c ds, ⟨dx, vs, a, b⟩ => ⟨dx, vs, h.trans a, RpF.mono e _ b⟩
theorem Own.has {K : PySem.W.Frag} {Hs H : Hp} {p : Addr} : ∀ {d : D}, Own K Hs H p d → ∃ o, H p = some o
  | .lst ds, ⟨vs, a, b⟩ => ⟨_, a⟩
  | .tup ds, ⟨vs, a, b⟩ => ⟨_, a⟩
  | .dic ds, ⟨vs, a, b⟩ => ⟨_, a⟩
  | .obj c ds, ⟨dx, vs, a, b⟩ => ⟨_, a⟩
structure IV (K : PySem.W.Frag) (x : Fx) (env : En) (σ : St) (Hs H : Hp) : Prop where
  len : env.length = σ.length
  ex : Same Hs H
  fr : Same x.fm H
  sep : ∀ a o, Hs a = some o → x.hs a = some o ∨ x.fm a = none
  h0 : Same x.hs Hs
  sh : ∀ (i : Nat) (d : D), env[i]? = some (some (.sh, d)) → ∃ v, σ[i]? = some (some v) ∧ Rp K Hs d v
  ow : ∀ (i : Nat) (k : Kd) (d : D), env[i]? = some (some (k, d)) → k ≠ .sh → ∃ p, σ[i]? = some (some (.ref p)) ∧ Hs p = none ∧ x.fm p = none ∧ Own K Hs H p d ∧ (k = .pn → p = x.pa i)
  dj : ∀ (i j : Nat) (k l : Kd) (d e : D) (p : Addr), i ≠ j → env[i]? = some (some (k, d)) → k ≠ .sh → env[j]? = some (some (l, e)) → l ≠ .sh → σ[i]? = some (some (.ref p)) → σ[j]? ≠ some (some (.ref p))
/-- no owned slot holds p -/
def Apart (env : En) (σ : St) (p : Addr) : Prop := ∀ (i : Nat) (k : Kd) (d : D), env[i]? = some (some (k, d)) → k ≠ .sh → σ[i]? ≠ some (some (.ref p))
section
variable {K : PySem.W.Frag} {x : Fx} {env : En} {σ : St} {Hs Hs' H H' : Hp}
/-- nothing tracked is changed -/
theorem IV.grow (I : IV K x env σ Hs H) (e : Same H H') : IV K x env σ Hs H' :=
  ⟨I.len, I.ex.trans e, I.fr.trans e, I.sep, I.h0, I.sh, fun i k d h1 h2 => by
    obtain ⟨p, a, b, c, o, q⟩ := I.ow i k d h1 h2
    obtain ⟨u, hu⟩ := o.has
    exact ⟨p, a, b, c, o.mono (Same.refl _) ((e _ _ hu).trans hu.symm), q⟩, I.dj⟩
theorem same_new {p : Addr} {o : HO} (h : H p = none) : Same H (upd H p o) := fun b u e => by
  rw [upd_ne (ne_of_none e h)]
  exact e
theorem same_mut {p : Addr} {o : HO} (e : Same Hs H) (h : Hs p = none) : Same Hs (upd H p o) := fun b u q => by
  rw [upd_ne (ne_of_none q h)]
  exact e b u q
/-- a new object, not yet shared -/
theorem IV.new {p : Addr} {o : HO} (I : IV K x env σ Hs H) (h : H p = none) : IV K x env σ Hs (upd H p o) := I.grow (same_new h)
theorem IV.fm_none {p : Addr} (I : IV K x env σ Hs H) (h : H p = none) : x.fm p = none := by
  cases e : x.fm p with
  | none => rfl
  | some o =>
    rw [I.fr p o e] at h
    cases h
theorem IV.hs_none {p : Addr} (I : IV K x env σ Hs H) (h : H p = none) : Hs p = none := by
  cases e : Hs p with
  | none => rfl
  | some o =>
    rw [I.ex p o e] at h
    cases h
theorem IV.apart {p : Addr} (I : IV K x env σ Hs H) (h : H p = none) : Apart env σ p := fun i k d h1 h2 e => by
  obtain ⟨q, a, b, c, o, _⟩ := I.ow i k d h1 h2
  rw [e] at a
  cases a
  obtain ⟨u, hu⟩ := o.has
  rw [h] at hu
  cases hu
/-- an object that no slot owns becomes shared -/
theorem IV.share {p : Addr} {o : HO} (I : IV K x env σ Hs H) (hp : H p = some o) (hn : Hs p = none) (hf : x.fm p = none) (ap : Apart env σ p) : IV K x env σ (upd Hs p o) H ∧ Same Hs (upd Hs p o) := by
  have e : Same Hs (upd Hs p o) := same_new hn
  refine ⟨⟨I.len, fun b u q => ?_, I.fr, fun b u q => ?_, I.h0.trans e, fun i d h1 => ?_, fun i k d h1 h2 => ?_, I.dj⟩, e⟩
  · by_cases hb : b = p
    · subst hb
      rw [upd_same] at q
      cases q
      exact hp
    · rw [upd_ne hb] at q
      exact I.ex b u q
  · by_cases hb : b = p
    · subst hb
      exact .inr hf
    · rw [upd_ne hb] at q
      exact I.sep b u q
  · obtain ⟨v, a, r⟩ := I.sh i d h1
    exact ⟨v, a, Rp.mono e _ r⟩
  · obtain ⟨q, a, b, c, w, z⟩ := I.ow i k d h1 h2
    have ne : q ≠ p := fun z => by
      subst z
      exact ap i k d h1 h2 a
    exact ⟨q, a, by rw [upd_ne ne]; exact b, c, w.mono e rfl, z⟩
theorem Own.rp {p : Addr} : ∀ {d : D}, Own K Hs H p d → ∃ o, H p = some o ∧ ∀ G, Same Hs G → G p = some o → Rp K G d (.ref p)
  | .lst ds, ⟨vs, a, b⟩ => ⟨_, a, fun G e g => by simp only [Rp]; exact ⟨p, vs, rfl, g, Rps.mono e _ b⟩⟩
  | .tup ds, ⟨vs, a, b⟩ => ⟨_, a, fun G e g => by simp only [Rp]; exact ⟨p, vs, rfl, SqT.of g, Rps.mono e _ b⟩⟩
  | .dic ds, ⟨vs, a, b⟩ => ⟨_, a, fun G e g => by simp only [Rp]; exact ⟨p, vs, rfl, g, RpK.mono e _ b⟩⟩
  | .obj c ds, ⟨dx, vs, a, b⟩ => ⟨_, a, fun G e g => by simp only [Rp]; exact ⟨p, dx, vs, rfl, g, RpF.mono e _ b⟩⟩
/-- a new thing becomes shared data -/
theorem IV.freeze {p : Addr} {d : D} (I : IV K x env σ Hs H) (ho : Own K Hs H p d) (hn : Hs p = none) (hf : x.fm p = none) (ap : Apart env σ p) : ∃ Hs', IV K x env σ Hs' H ∧ Same Hs Hs' ∧ Rp K Hs' d (.ref p) := by
  obtain ⟨o, hp, r⟩ := ho.rp
  obtain ⟨I', e⟩ := I.share hp hn hf ap
  exact ⟨_, I', e, r _ e upd_same⟩
theorem get_set {α : Type} {l : List (Option α)} {i j : Nat} {a b : Option α} (h : (l.set i a)[j]? = some b) : (j = i ∧ b = a) ∨ (j ≠ i ∧ l[j]? = some b) := by
  by_cases e : j = i
  · subst e
    by_cases hl : j < l.length
    · rw [List.getElem?_set_self hl] at h
      exact .inl ⟨rfl, (Option.some.inj h).symm⟩
    · rw [List.getElem?_eq_none (by rw [List.length_set]; omega)] at h
      cases h
  · rw [List.getElem?_set_ne (Ne.symm e)] at h
    exact .inr ⟨e, h⟩
/-- a slot holds shared data -/
theorem IV.setSh {i : Nat} {d : D} {v : V} (I : IV K x env σ Hs H) (hi : i < σ.length) (r : Rp K Hs d v) : IV K x (env.set i (some (.sh, d))) (σ.set i (some v)) Hs H := by
  refine ⟨by rw [List.length_set, List.length_set, I.len], I.ex, I.fr, I.sep, I.h0, fun j e h1 => ?_, fun j k e h1 h2 => ?_, fun j l kj kl dj dl p hne h1 h2 h3 h4 h5 => ?_⟩
  · rcases get_set h1 with ⟨rfl, h⟩ | ⟨hj, h⟩
    · cases h
      exact ⟨v, List.getElem?_set_self hi, r⟩
    · rw [List.getElem?_set_ne (Ne.symm hj)]
      exact I.sh j e h
  · rcases get_set h1 with ⟨rfl, h⟩ | ⟨hj, h⟩
    · cases h
      exact absurd rfl h2
    · rw [List.getElem?_set_ne (Ne.symm hj)]
      exact I.ow j k e h h2
  · rcases get_set h1 with ⟨rfl, h⟩ | ⟨hj, h⟩
    · cases h
      exact absurd rfl h2
    · rcases get_set h3 with ⟨rfl, h'⟩ | ⟨hl, h'⟩
      · cases h'
        exact absurd rfl h4
      · rw [List.getElem?_set_ne (Ne.symm hj)] at h5
        rw [List.getElem?_set_ne (Ne.symm hl)]
        exact I.dj j l kj kl dj dl p hne h h2 h' h4 h5
/-- a slot owns a new thing -/
theorem IV.setOw {i : Nat} {d : D} {p : Addr} (I : IV K x env σ Hs H) (hi : i < σ.length) (ho : Own K Hs H p d) (hn : Hs p = none) (hf : x.fm p = none) (ap : Apart env σ p) : IV K x (env.set i (some (.ow, d))) (σ.set i (some (.ref p))) Hs H := by
  refine ⟨by rw [List.length_set, List.length_set, I.len], I.ex, I.fr, I.sep, I.h0, fun j e h1 => ?_, fun j k e h1 h2 => ?_, fun j l kj kl dj dl q hne h1 h2 h3 h4 h5 => ?_⟩
  · rcases get_set h1 with ⟨rfl, h⟩ | ⟨hj, h⟩
    · cases h
    · rw [List.getElem?_set_ne (Ne.symm hj)]
      exact I.sh j e h
  · rcases get_set h1 with ⟨rfl, h⟩ | ⟨hj, h⟩
    · cases h
      exact ⟨p, List.getElem?_set_self hi, hn, hf, ho, fun z => nomatch z⟩
    · rw [List.getElem?_set_ne (Ne.symm hj)]
      exact I.ow j k e h h2
  · rcases get_set h1 with ⟨rfl, h⟩ | ⟨hj, h⟩
    · rw [List.getElem?_set_self hi] at h5
      cases h5
      rcases get_set h3 with ⟨rfl, h'⟩ | ⟨hl, h'⟩
      · exact absurd rfl hne
      · rw [List.getElem?_set_ne (Ne.symm hl)]
        exact ap l kl dl h' h4
    · rw [List.getElem?_set_ne (Ne.symm hj)] at h5
      rcases get_set h3 with ⟨rfl, h'⟩ | ⟨hl, h'⟩
      · rw [List.getElem?_set_self hi]
        intro z
        cases z
        exact ap j kj dj h h2 h5
      · rw [List.getElem?_set_ne (Ne.symm hl)]
        exact I.dj j l kj kl dj dl q hne h h2 h' h4 h5
/-- the thing that slot i owns is changed -/
theorem IV.put {i : Nat} {k : Kd} {d d' : D} {p : Addr} {o : HO} (I : IV K x env σ Hs H) (hi : env[i]? = some (some (k, d))) (hk : k ≠ .sh) (hp : σ[i]? = some (some (.ref p))) (ho : Own K Hs (upd H p o) p d') : IV K x (env.set i (some (k, d'))) σ Hs (upd H p o) := by
  obtain ⟨q, a, b, c, _, z⟩ := I.ow i k d hi hk
  rw [hp] at a
  cases a
  have hil : i < env.length := (List.getElem?_eq_some_iff.mp hi).1
  refine ⟨by rw [List.length_set, I.len], same_mut I.ex b, same_mut I.fr c, I.sep, I.h0, fun j e h1 => ?_, fun j l e h1 h2 => ?_, fun j l kj kl dj dl r hne h1 h2 h3 h4 h5 => ?_⟩
  · rcases get_set h1 with ⟨rfl, h⟩ | ⟨hj, h⟩
    · cases h
      exact absurd rfl hk
    · exact I.sh j e h
  · rcases get_set h1 with ⟨rfl, h⟩ | ⟨hj, h⟩
    · cases h
      exact ⟨p, hp, b, c, ho, z⟩
    · obtain ⟨r, a', b', c', o', z'⟩ := I.ow j l e h h2
      have ne : r ≠ p := fun w => by
        subst w
        exact I.dj j i l k e d r hj h h2 hi hk a' hp
      exact ⟨r, a', b', c', o'.mono (Same.refl _) (upd_ne ne), z'⟩
  · have g : ∀ {m : Nat} {km : Kd} {dm : D}, (env.set i (some (k, d')))[m]? = some (some (km, dm)) → ∃ dm', env[m]? = some (some (km, dm')) := fun {m km dm} hh => by
      rcases get_set hh with ⟨em, h⟩ | ⟨_, h⟩
      · cases h
        rw [em]
        exact ⟨d, hi⟩
      · exact ⟨dm, h⟩
    obtain ⟨d1, g1⟩ := g h1
    obtain ⟨d2, g2⟩ := g h3
    exact I.dj j l kj kl d1 d2 r hne g1 h2 g2 h4 h5
/-- what a slot owns becomes shared -/
theorem IV.fz {i : Nat} {d : D} (I : IV K x env σ Hs H) (hi : env[i]? = some (some (.ow, d))) : ∃ Hs', IV K x (env.set i (some (.sh, d))) σ Hs' H ∧ Same Hs Hs' := by
  obtain ⟨p, a, b, c, ho, _⟩ := I.ow i .ow d hi (by decide)
  have hil : i < σ.length := (List.getElem?_eq_some_iff.mp a).1
  -- first forget the slot, then share, then lay it anew
  have I1 : IV K x (env.set i none) σ Hs H := by
    refine ⟨by rw [List.length_set, I.len], I.ex, I.fr, I.sep, I.h0, fun j e h1 => ?_, fun j k e h1 h2 => ?_, fun j l kj kl dj dl q hne h1 h2 h3 h4 h5 => ?_⟩
    · rcases get_set h1 with ⟨rfl, h⟩ | ⟨hj, h⟩
      · cases h
      · exact I.sh j e h
    · rcases get_set h1 with ⟨rfl, h⟩ | ⟨hj, h⟩
      · cases h
      · exact I.ow j k e h h2
    · rcases get_set h1 with ⟨rfl, h⟩ | ⟨hj, h⟩
      · cases h
      · rcases get_set h3 with ⟨rfl, h'⟩ | ⟨hl, h'⟩
        · cases h'
        · exact I.dj j l kj kl dj dl q hne h h2 h' h4 h5
  have ap : Apart (env.set i none) σ p := fun j k e h1 h2 z => by
    rcases get_set h1 with ⟨rfl, h⟩ | ⟨hj, h⟩
    · cases h
    · exact I.dj j i k .ow e d p hj h h2 hi (by decide) z a
  obtain ⟨Hs', I2, e, r⟩ := I1.freeze ho b c ap
  have I3 := I2.setSh (i := i) (d := d) (v := .ref p) hil r
  have e1 : (env.set i none).set i (some (Kd.sh, d)) = env.set i (some (.sh, d)) := by rw [List.set_set]
  have e2 : σ.set i (some (.ref p)) = σ := by
    apply List.ext_getElem?
    intro j
    by_cases hj : j = i
    · subst hj
      rw [List.getElem?_set_self hil, a]
    · rw [List.getElem?_set_ne (Ne.symm hj)]
  rw [e1, e2] at I3
  exact ⟨Hs', I3, e⟩
end
/-- the thing itself in the whole heap, its parts shared -/
def Pk (K : PySem.W.Frag) (Hs H : Hp) : D → V → Prop
  | .tup ds, v => ∃ a vs, v = .ref a ∧ SqT K H a vs ∧ Rps K Hs ds vs
  | .lst ds, v => ∃ a vs, v = .ref a ∧ H a = some (.lst vs) ∧ Rps K Hs ds vs
  | .dic kvs, v => ∃ a ks, v = .ref a ∧ H a = some (.dK ks) ∧ RpK K Hs kvs ks
  | .obj c fs, v => ∃ a dx gs, v = .ref a ∧ H a = some (.ins (He.ga K c) dx gs) ∧ RpF K Hs fs gs
  | .scr ns, v => ∃ a, v = .ref a ∧ SqL K H a (ns.map V.int)
  | .non, v => v = .non
  | .bl b, v => v = .bl b
  | .int i, v => v = .int i
  | .str x, v => v = .str ⟨x.toArray⟩
  | .cls c, v => v = .ref (He.ga K c)
  | .ty n, v => v = .ty n
section
variable {K : PySem.W.Frag} {x : Fx} {env : En} {σ : St} {Hs Hs' H H' : Hp}
theorem Rp.pk (e : Same Hs H) : ∀ {d : D} {v : V}, Rp K Hs d v → Pk K Hs H d v
  | .non, _, h => by simp only [Rp] at h; exact h
  | .bl _, _, h => by simp only [Rp] at h; exact h
  | .int _, _, h => by simp only [Rp] at h; exact h
  | .str _, _, h => by simp only [Rp] at h; exact h
  | .cls _, _, h => by simp only [Rp] at h; exact h
  | .ty _, _, h => by simp only [Rp] at h; exact h
  | .tup ds, _, h => by
    simp only [Rp] at h
    obtain ⟨a, vs, h1, h2, h3⟩ := h
    exact ⟨a, vs, h1, same_sqT e h2, h3⟩
  | .lst ds, _, h => by
    simp only [Rp] at h
    obtain ⟨a, vs, h1, h2, h3⟩ := h
    exact ⟨a, vs, h1, e _ _ h2, h3⟩
  | .dic kvs, _, h => by
    simp only [Rp] at h
    obtain ⟨a, ks, h1, h2, h3⟩ := h
    exact ⟨a, ks, h1, e _ _ h2, h3⟩
  | .obj c fs, _, h => by
    simp only [Rp] at h
    obtain ⟨a, dx, gs, h1, h2, h3⟩ := h
    exact ⟨a, dx, gs, h1, e _ _ h2, h3⟩
  | .scr ns, _, h => by
    simp only [Rp] at h
    obtain ⟨a, h1, h2⟩ := h
    exact ⟨a, h1, e.seq h2⟩
theorem Own.pk {p : Addr} : ∀ {d : D}, Own K Hs H p d → Pk K Hs H d (.ref p)
  | .lst ds, ⟨vs, a, b⟩ => ⟨p, vs, rfl, a, b⟩
  | .tup ds, ⟨vs, a, b⟩ => ⟨p, vs, rfl, SqT.of a, b⟩
  | .dic ds, ⟨vs, a, b⟩ => ⟨p, vs, rfl, a, b⟩
  | .obj c ds, ⟨dx, vs, a, b⟩ => ⟨p, dx, vs, rfl, a, b⟩
/-- in the whole heap it is that data -/
theorem Pk.rp (e : Same Hs H) : ∀ {d : D} {v : V}, Pk K Hs H d v → Rp K H d v
  | .non, _, h => by simp only [Rp]; exact h
  | .bl _, _, h => by simp only [Rp]; exact h
  | .int _, _, h => by simp only [Rp]; exact h
  | .str _, _, h => by simp only [Rp]; exact h
  | .cls _, _, h => by simp only [Rp]; exact h
  | .ty _, _, h => by simp only [Rp]; exact h
  | .tup ds, _, ⟨a, vs, h1, h2, h3⟩ => by simp only [Rp]; exact ⟨a, vs, h1, h2, Rps.mono e ds h3⟩
  | .lst ds, _, ⟨a, vs, h1, h2, h3⟩ => by simp only [Rp]; exact ⟨a, vs, h1, h2, Rps.mono e ds h3⟩
  | .dic ds, _, ⟨a, vs, h1, h2, h3⟩ => by simp only [Rp]; exact ⟨a, vs, h1, h2, RpK.mono e ds h3⟩
  | .obj c ds, _, ⟨a, dx, vs, h1, h2, h3⟩ => by simp only [Rp]; exact ⟨a, dx, vs, h1, h2, RpF.mono e ds h3⟩
  | .scr ns, _, ⟨a, h1, h2⟩ => by simp only [Rp]; exact ⟨a, h1, h2⟩
end
/-- an operand: a value, or the slot that is looked at -/
inductive Ov where
  | d (d : D)
  | s (i : Nat)
def fetch (env : En) : Ov → Option D
  | .d d => some d
  | .s i => match env[i]? with
    | some (some (_, d)) => some d
    | _ => none
def OvR (K : PySem.W.Frag) (σ : St) (Hs : Hp) (v : V) : Ov → Prop
  | .d d => Rp K Hs d v
  | .s i => σ[i]? = some (some v)
section
variable {K : PySem.W.Frag} {x : Fx} {env : En} {σ : St} {Hs Hs' H H' : Hp} {v : V}
theorem OvR.mono (e : Same Hs Hs') : ∀ {o : Ov}, OvR K σ Hs v o → OvR K σ Hs' v o
  | .d d, h => Rp.mono e d h
  | .s i, h => h
theorem IV.slot {i : Nat} {k : Kd} {d : D} (I : IV K x env σ Hs H) (h : env[i]? = some (some (k, d))) : ∃ v, σ[i]? = some (some v) ∧ Pk K Hs H d v := by
  by_cases hk : k = .sh
  · subst hk
    obtain ⟨v, a, r⟩ := I.sh i d h
    exact ⟨v, a, r.pk I.ex⟩
  · obtain ⟨p, a, _, _, o, _⟩ := I.ow i k d h hk
    exact ⟨.ref p, a, o.pk⟩
theorem IV.pk {o : Ov} {d : D} (I : IV K x env σ Hs H) (r : OvR K σ Hs v o) (h : fetch env o = some d) : Pk K Hs H d v := by
  cases o with
  | d e =>
    cases h
    exact Rp.pk I.ex r
  | s i =>
    have h : (match env[i]? with
      | some (some (_, d)) => some d
      | _ => none) = some d := h
    cases q : env[i]? with
    | none =>
      rw [q] at h
      cases h
    | some z =>
      cases z with
      | none =>
        rw [q] at h
        cases h
      | some kd =>
        obtain ⟨k, e⟩ := kd
        rw [q] at h
        cases h
        obtain ⟨v', a, r'⟩ := I.slot q
        have r2 : σ[i]? = some (some v) := r
        rw [r2] at a
        cases a
        exact r'
end
abbrev FE := En → Option (D × En)
abbrev FO := En → Option (Ov × En)
def rd (K : PySem.W.Frag) (f : FE) : TE := fun σ H Q => ∃ x env Hs d env', IV K x env σ Hs H ∧ f env = some (d, env') ∧ ∀ v H' Hs', IV K x env' σ Hs' H' → Same Hs Hs' → Rp K Hs' d v → Q v H'
def rdO (K : PySem.W.Frag) (f : FO) : TE := fun σ H Q => ∃ x env Hs o env', IV K x env σ Hs H ∧ f env = some (o, env') ∧ ∀ v H' Hs', IV K x env' σ Hs' H' → Same Hs Hs' → OvR K σ Hs' v o → Q v H'
/-- a new thing -/
def rdF (K : PySem.W.Frag) (f : FE) : TE := fun σ H Q => ∃ x env Hs d env', IV K x env σ Hs H ∧ f env = some (d, env') ∧ ∀ p H' Hs', IV K x env' σ Hs' H' → Same Hs Hs' → Own K Hs' H' p d → Hs' p = none → x.fm p = none → Apart env' σ p → Q (.ref p) H'
abbrev DE (X : Cx) (e : Expr) (f : FE) : Prop := PE X e (rd X.K f)
abbrev DO (X : Cx) (e : Expr) (f : FO) : Prop := PE X e (rdO X.K f)
abbrev DF (X : Cx) (e : Expr) (f : FE) : Prop := PE X e (rdF X.K f)
/-- a test -/
def rdT (K : PySem.W.Frag) (f : FE) : TT := fun σ H Q => ∃ x env Hs b env', IV K x env σ Hs H ∧ f env = some (.bl b, env') ∧ ∀ H' Hs', IV K x env' σ Hs' H' → Same Hs Hs' → Q b H'
abbrev DT (X : Cx) (e : Expr) (f : FE) : Prop := PT X e (rdT X.K f)
inductive Out where
  | nx (e : En)
  | bk (e : En)
  | ct (e : En)
  | rt (own : Bool) (d : D) (e : En)
abbrev FS := En → Option Out
def OutE (K : PySem.W.Frag) (x : Fx) (Hs : Hp) (Z : Ends) : Out → Prop
  | .nx e => ∀ σ H Hs', IV K x e σ Hs' H → Same Hs Hs' → Z.nx σ H
  | .bk e => ∀ σ H Hs', IV K x e σ Hs' H → Same Hs Hs' → Z.bk σ H
  | .ct e => ∀ σ H Hs', IV K x e σ Hs' H → Same Hs Hs' → Z.ct σ H
  | .rt false d e => ∀ v σ H Hs', IV K x e σ Hs' H → Same Hs Hs' → Rp K Hs' d v → Z.rt v H
  | .rt true d e => ∀ p σ H Hs', IV K x e σ Hs' H → Same Hs Hs' → Own K Hs' H p d → Hs' p = none → x.fm p = none → Apart e σ p → Z.rt (.ref p) H
def rdS (K : PySem.W.Frag) (F : FS) : TS := fun Z σ H => ∃ x env Hs o, IV K x env σ Hs H ∧ F env = some o ∧ OutE K x Hs Z o
abbrev DS (X : Cx) (st : Stmt) (F : FS) : Prop := PS X st (rdS X.K F)
abbrev DSs (X : Cx) (sts : List Stmt) (F : FS) : Prop := PSs X sts (rdS X.K F)
theorem OutE.mono {K : PySem.W.Frag} {x : Fx} {Hs Hs' : Hp} {Z : Ends} (e : Same Hs Hs') : ∀ {o : Out}, OutE K x Hs Z o → OutE K x Hs' Z o
  | .nx _, h => fun σ H G I q => h σ H G I (e.trans q)
  | .bk _, h => fun σ H G I q => h σ H G I (e.trans q)
  | .ct _, h => fun σ H G I q => h σ H G I (e.trans q)
  | .rt false _ _, h => fun v σ H G I q => h v σ H G I (e.trans q)
  | .rt true _ _, h => fun p σ H G I q => h p σ H G I (e.trans q)
section
variable {X : Cx}
theorem imp {e : Expr} {t u : TE} (h : PE X e t) (k : ∀ σ H Q, u σ H Q → t σ H Q) : PE X e u := ⟨fun pins s σ H Q I q => h.run pins s σ H Q I (k σ H Q q)⟩
theorem impT {e : Expr} {t u : TT} (h : PT X e t) (k : ∀ σ H Q, u σ H Q → t σ H Q) : PT X e u := ⟨fun pins s σ H Q I q => h.run pins s σ H Q I (k σ H Q q)⟩
theorem impS {st : Stmt} {t u : TS} (h : PS X st t) (k : ∀ Z σ H, u Z σ H → t Z σ H) : PS X st u := ⟨fun pins s σ H D I q => h.run pins s σ H D I (k D σ H q)⟩
theorem impSs {st : List Stmt} {t u : TS} (h : PSs X st t) (k : ∀ Z σ H, u Z σ H → t Z σ H) : PSs X st u := ⟨fun pins s σ H D I q => h.run pins s σ H D I (k D σ H q)⟩
end
end Qd
namespace Qd
open PySem PySem.Spec L2
def eVar (i : Nat) : FE := fun env => match env[i]? with
  | some (some (.sh, d)) => some (d, env)
  | _ => none
def eK (d : D) : FE := fun env => some (d, env)
def oS (i : Nat) : FO := fun env => match env[i]? with
  | some (some _) => some (.s i, env)
  | _ => none
def oE (f : FE) : FO := fun env => (f env).map fun p => (.d p.1, p.2)
section
variable {X : Cx}
theorem de_var (i : Nat) {x : Str} {pos : Pos} (hN : X.N[i]? = some x := by rfl) (hv : Vis X.env.scope x := by first | exact Or.inl rfl | exact Or.inr (Or.inl rfl) | exact Or.inr (Or.inr rfl)) (hd : (x == ("__debug__" : Str)) = false := by decide)
    (hcd : (x == ("__classdict__" : Str)) = false := by decide) : DE X (.Name x pos) (eVar i) := by
  refine imp (pe_var hN hv hd hcd) fun σ H Q h => ?_
  obtain ⟨x, env, Hs, d, env', I, hf, k⟩ := h
  unfold eVar at hf
  split at hf
  · rename_i d' hq
    cases hf
    obtain ⟨v, a, r⟩ := I.sh i d hq
    exact ⟨v, a, k v H Hs I (Same.refl _) r⟩
  · cases hf
theorem do_peek (i : Nat) {x : Str} {pos : Pos} (hN : X.N[i]? = some x := by rfl) (hv : Vis X.env.scope x := by first | exact Or.inl rfl | exact Or.inr (Or.inl rfl) | exact Or.inr (Or.inr rfl)) (hd : (x == ("__debug__" : Str)) = false := by decide)
    (hcd : (x == ("__classdict__" : Str)) = false := by decide) : DO X (.Name x pos) (oS i) := by
  refine imp (pe_var hN hv hd hcd) fun σ H Q h => ?_
  obtain ⟨x, env, Hs, o, env', I, hf, k⟩ := h
  unfold oS at hf
  split at hf
  · rename_i kd hq
    cases hf
    obtain ⟨kk, d⟩ := kd
    obtain ⟨v, a, r⟩ := I.slot hq
    exact ⟨v, a, k v H Hs I (Same.refl _) a⟩
  · cases hf
theorem do_of {e : Expr} {f : FE} (h : DE X e f) : DO X e (oE f) := by
  refine imp h fun σ H Q h => ?_
  obtain ⟨x, env, Hs, o, env', I, hf, k⟩ := h
  obtain ⟨⟨d, e2⟩, h1, h2⟩ := Option.map_eq_some_iff.mp hf
  cases h2
  exact ⟨x, env, Hs, d, _, I, h1, fun v H' Hs' I' s r => k v H' Hs' I' s r⟩
theorem de_int {i j pos} : DE X (.Constant (.int i) j pos) (eK (.int i)) := imp pe_int fun σ H Q h => by
  obtain ⟨x, env, Hs, d, env', I, hf, k⟩ := h
  cases hf
  exact k _ H Hs I (Same.refl _) (by simp only [Rp])
theorem de_bl {b j pos} : DE X (.Constant (.bool b) j pos) (eK (.bl b)) := imp pe_bl fun σ H Q h => by
  obtain ⟨x, env, Hs, d, env', I, hf, k⟩ := h
  cases hf
  exact k _ H Hs I (Same.refl _) (by simp only [Rp])
theorem de_non {j pos} : DE X (.Constant .none j pos) (eK .non) := imp pe_non fun σ H Q h => by
  obtain ⟨x, env, Hs, d, env', I, hf, k⟩ := h
  cases hf
  exact k _ H Hs I (Same.refl _) (by simp only [Rp])
theorem de_str (l : List Nat) {x : Str} {j pos} (e : x = ⟨l.toArray⟩ := by decide +kernel) : DE X (.Constant (.str x) j pos) (eK (.str l)) := imp pe_str fun σ H Q h => by
  obtain ⟨y, env, Hs, d, env', I, hf, k⟩ := h
  cases hf
  exact k _ H Hs I (Same.refl _) (by simp only [Rp]; rw [e])
/-- a module's constant -/
theorem de_gloI (i : Int) {x : Str} {pos : Pos} {t : Tok} (hm : X.mg x = some (.int i t)) (hg : Gl X x := by rfl) (hdb : (x == ("__debug__" : Str)) = false := by decide) : DE X (.Name x pos) (eK (.int i)) := imp (pe_glob (v := .int i) hg hm ⟨t, rfl⟩ hdb) fun σ H Q h => by
  obtain ⟨y, env, Hs, d, env', I, hf, k⟩ := h
  cases hf
  exact k _ H Hs I (Same.refl _) (by simp only [Rp])
theorem de_gloS (l : List Nat) {x : Str} {pos : Pos} {t : Tok} (hm : X.mg x = some (.str ⟨l.toArray⟩ t)) (hg : Gl X x := by rfl) (hdb : (x == ("__debug__" : Str)) = false := by decide) : DE X (.Name x pos) (eK (.str l)) := imp (pe_glob (v := .str ⟨l.toArray⟩) hg hm ⟨t, rfl⟩ hdb) fun σ H Q h => by
  obtain ⟨y, env, Hs, d, env', I, hf, k⟩ := h
  cases hf
  exact k _ H Hs I (Same.refl _) (by simp only [Rp])
/-- what is new, as shared data -/
theorem de_frz {e : Expr} {f : FE} (h : DF X e f) : DE X e f := by
  refine imp h fun σ H Q h => ?_
  obtain ⟨x, env, Hs, d, env', I, hf, k⟩ := h
  refine ⟨x, env, Hs, d, env', I, hf, fun p H' Hs' I' s o n m ap => ?_⟩
  obtain ⟨G, I2, s2, r⟩ := I'.freeze o n m ap
  exact k _ H' G I2 (s.trans s2) r
theorem dt_of {e : Expr} {f : FE} (h : DE X e f) (he : ∀ whole, isTrue e X.env whole = (do let v ← whole; standAt e.pos; holding [v] (truthy v)) := by intro _; rfl) : DT X e f := by
  refine impT (pt_val h he) fun σ H Q h => ?_
  obtain ⟨x, env, Hs, b, env', I, hf, k⟩ := h
  refine ⟨x, env, Hs, .bl b, env', I, hf, fun v H' Hs' I' s r => ?_⟩
  simp only [Rp] at r
  exact ⟨b, r, k H' Hs' I' s⟩
end
def ev2 (fa fb : FO) (env : En) : Option (D × D × En) := (fa env).bind fun p => (fb p.2).bind fun q => (fetch q.2 p.1).bind fun d => (fetch q.2 q.1).map fun e => (d, e, q.2)
def eOp2 (g : D → D → Option D) (fa fb : FO) : FE := fun env => (ev2 fa fb env).bind fun p => (g p.1 p.2.1).map fun z => (z, p.2.2)
section
variable {X : Cx} {K : PySem.W.Frag} {x : Fx} {env env' : En} {σ : L2.St} {Hs H : Hp}
theorem rd2 {fa fb : FO} {d e : D} {R : V → V → Hp → Prop} (I : IV K x env σ Hs H) (h : ev2 fa fb env = some (d, e, env')) (k : ∀ v w H' Hs', IV K x env' σ Hs' H' → Same Hs Hs' → Pk K Hs' H' d v → Pk K Hs' H' e w → R v w H') :
    rdO K fa σ H fun v H1 => rdO K fb σ H1 fun w H2 => R v w H2 := by
  unfold ev2 at h
  obtain ⟨p, hp, h⟩ := Option.bind_eq_some_iff.mp h
  obtain ⟨q, hq, h⟩ := Option.bind_eq_some_iff.mp h
  obtain ⟨d', hd, h⟩ := Option.bind_eq_some_iff.mp h
  obtain ⟨e', he, h⟩ := Option.map_eq_some_iff.mp h
  cases h
  exact ⟨x, env, Hs, p.1, p.2, I, hp, fun v H1 Hs1 I1 s1 o1 => ⟨x, p.2, Hs1, q.1, q.2, I1, hq, fun w H2 Hs2 I2 s2 o2 => k v w H2 Hs2 I2 (s1.trans s2) (I2.pk (o1.mono s2) hd) (I2.pk o2 he)⟩⟩
/-- a value out of two -/
def OV2 (K : PySem.W.Frag) (r : R2) (g : D → D → Option D) : Prop := ∀ (Hs H : Hp) (d e z : D) (v w : V), Same Hs H → Pk K Hs H d v → Pk K Hs H e w → g d e = some z → ∃ u, Rp K Hs z u ∧ ∀ Q : VK, Q u H → r v w H Q
/-- a new thing out of two -/
def OF2 (K : PySem.W.Frag) (r : R2) (g : D → D → Option D) : Prop := ∀ (Hs H : Hp) (d e z : D) (v w : V), Same Hs H → Pk K Hs H d v → Pk K Hs H e w → g d e = some z → ∃ o, (∀ p, Own K Hs (upd H p o) p z) ∧ ∀ Q : VK, (∀ p, H p = none → Q (.ref p) (upd H p o)) → r v w H Q
theorem op2V {r : R2} {g : D → D → Option D} {fa fb : FO} (hs : OV2 K r g) {Q : VK} (h : rd K (eOp2 g fa fb) σ H Q) : tOp r (rdO K fa) (rdO K fb) σ H Q := by
  obtain ⟨x, env, Hs, d, env', I, hf, k⟩ := h
  obtain ⟨⟨d1, d2, e2⟩, h1, h2⟩ := Option.bind_eq_some_iff.mp hf
  obtain ⟨z, h3, h4⟩ := Option.map_eq_some_iff.mp h2
  cases h4
  refine rd2 (R := fun v w H' => r v w H' Q) I h1 fun v w H' Hs' I' s p1 p2 => ?_
  obtain ⟨u, hu, hr⟩ := hs Hs' H' d1 d2 _ v w I'.ex p1 p2 h3
  exact hr Q (k u H' Hs' I' s hu)
theorem op2F {r : R2} {g : D → D → Option D} {fa fb : FO} (hs : OF2 K r g) {Q : VK} (h : rdF K (eOp2 g fa fb) σ H Q) : tOp r (rdO K fa) (rdO K fb) σ H Q := by
  obtain ⟨x, env, Hs, d, env', I, hf, k⟩ := h
  obtain ⟨⟨d1, d2, e2⟩, h1, h2⟩ := Option.bind_eq_some_iff.mp hf
  obtain ⟨z, h3, h4⟩ := Option.map_eq_some_iff.mp h2
  cases h4
  refine rd2 (R := fun v w H' => r v w H' Q) I h1 fun v w H' Hs' I' s p1 p2 => ?_
  obtain ⟨o, ho, hr⟩ := hs Hs' H' d1 d2 _ v w I'.ex p1 p2 h3
  exact hr Q fun p hp => k p _ Hs' (I'.new hp) s (ho p) (I'.hs_none hp) (I'.fm_none hp) (I'.apart hp)
theorem de_op2 {op : Operator} {r : R2} {g : D → D → Option D} {a b : Expr} {fa fb : FO} {pos : Pos} (ho : OpR X (binaryOp op) r) (hs : OV2 X.K r g) (ha : DO X a fa) (hb : DO X b fb) : DE X (.BinOp a op b pos) (eOp2 g fa fb) :=
  imp (pe_op ho ha hb) fun _ _ _ h => op2V hs h
theorem df_op2 {op : Operator} {r : R2} {g : D → D → Option D} {a b : Expr} {fa fb : FO} {pos : Pos} (ho : OpR X (binaryOp op) r) (hs : OF2 X.K r g) (ha : DO X a fa) (hb : DO X b fb) : DF X (.BinOp a op b pos) (eOp2 g fa fb) :=
  imp (pe_op ho ha hb) fun _ _ _ h => op2F hs h
theorem de_cmp2 {op : CmpOp} {r : R2} {g : D → D → Option D} {a b : Expr} {fa fb : FO} {pos : Pos} (ho : OpR X (compareOp op) r) (hs : OV2 X.K r g) (ha : DO X a fa) (hb : DO X b fb) (hm : behindInMarks op b = false) : DE X (.Compare a [op] [b] pos) (eOp2 g fa fb) :=
  imp (pe_cmpR ho ha hb hm) fun _ _ _ h => op2V hs h
theorem dt_cmp2 {op : CmpOp} {r : R2} {g : D → D → Option D} {a b : Expr} {fa fb : FO} {pos : Pos} (ho : OpR X (compareOp op) r) (hs : OV2 X.K r g) (ha : DO X a fa) (hb : DO X b fb) (hm : behindInMarks op b = false) : DT X (.Compare a [op] [b] pos) (eOp2 g fa fb) := by
  refine impT (pt_cmpR ho ha hb hm) fun σ H Q h => ?_
  obtain ⟨x, env, Hs, b, env', I, hf, k⟩ := h
  refine op2V hs ⟨x, env, Hs, .bl b, env', I, hf, fun v H' Hs' I' s r => ?_⟩
  simp only [Rp] at r
  exact ⟨b, r, k H' Hs' I' s⟩
theorem de_ix2 {r : R2} {g : D → D → Option D} {a b : Expr} {fa fb : FO} {pos : Pos} (ho : IxR X r) (hs : OV2 X.K r g) (ha : DO X a fa) (hb : DO X b fb) (hp : PlainIx b) : DE X (.Subscript a b pos) (eOp2 g fa fb) :=
  imp (pe_ix ho ha hb hp) fun _ _ _ h => op2V hs h
end
abbrev FA := En → Option (List Ov × En)
def OvRs (K : PySem.W.Frag) (σ : L2.St) (Hs : Hp) : List V → List Ov → Prop
  | [], [] => True
  | v :: vs, o :: os => OvR K σ Hs v o ∧ OvRs K σ Hs vs os
  | _, _ => False
theorem OvRs.mono {K : PySem.W.Frag} {σ : L2.St} {Hs Hs' : Hp} (e : Same Hs Hs') : ∀ {vs : List V} {os : List Ov}, OvRs K σ Hs vs os → OvRs K σ Hs' vs os
  | [], [], _ => trivial
  | _ :: _, _ :: _, ⟨a, b⟩ => ⟨a.mono e, OvRs.mono e b⟩
def rdA (K : PySem.W.Frag) (f : FA) : TA := fun σ H Q => ∃ x env Hs os env', IV K x env σ Hs H ∧ f env = some (os, env') ∧ ∀ vs H' Hs', IV K x env' σ Hs' H' → Same Hs Hs' → OvRs K σ Hs' vs os → Q vs H'
abbrev DA (X : Cx) (es : List Expr) (f : FA) : Prop := PA X es (rdA X.K f)
def aNil : FA := fun env => some ([], env)
def aCons (fo : FO) (fa : FA) : FA := fun env => (fo env).bind fun p => (fa p.2).map fun q => (p.1 :: q.1, q.2)
def fetchs (env : En) : List Ov → Option (List D)
  | [] => some []
  | o :: os => (fetch env o).bind fun d => (fetchs env os).map fun ds => d :: ds
def Pks (K : PySem.W.Frag) (Hs H : Hp) : List D → List V → Prop
  | [], [] => True
  | d :: ds, v :: vs => Pk K Hs H d v ∧ Pks K Hs H ds vs
  | _, _ => False
section
variable {X : Cx} {K : PySem.W.Frag} {x : Fx} {env env' : En} {σ : L2.St} {Hs H : Hp}
theorem IV.pks (I : IV K x env σ Hs H) : ∀ {vs : List V} {os : List Ov} {ds : List D}, OvRs K σ Hs vs os → fetchs env os = some ds → Pks K Hs H ds vs
  | [], [], _, _, h => by
    cases h
    exact trivial
  | v :: vs, o :: os, _, ⟨a, b⟩, h => by
    obtain ⟨d, hd, h⟩ := Option.bind_eq_some_iff.mp h
    obtain ⟨ds, hds, h⟩ := Option.map_eq_some_iff.mp h
    cases h
    exact ⟨I.pk a hd, IV.pks I b hds⟩
theorem da_nil : DA X [] aNil := ⟨fun pos pins s σ H Q I h => pa_nil.run pos pins s σ H Q I (by
  obtain ⟨x, env, Hs, os, env', I, hf, k⟩ := h
  cases hf
  exact k [] H Hs I (Same.refl _) trivial)⟩
theorem da_cons {e : Expr} {es : List Expr} {fo : FO} {fa : FA} (h1 : DO X e fo) (h2 : DA X es fa) (hs : starEach (e :: es) X.env = (false, eval e X.env) :: starEach es X.env := by rfl) : DA X (e :: es) (aCons fo fa) := ⟨fun pos pins s σ H Q I h => (pa_cons h1 h2 hs).run pos pins s σ H Q I (by
  obtain ⟨x, env, Hs, os, env', I, hf, k⟩ := h
  obtain ⟨⟨o, e1⟩, g1, g⟩ := Option.bind_eq_some_iff.mp hf
  obtain ⟨⟨os', e2⟩, g2, g3⟩ := Option.map_eq_some_iff.mp g
  cases g3
  exact ⟨x, env, Hs, o, e1, I, g1, fun v H1 Hs1 I1 s1 o1 => ⟨x, e1, Hs1, os', _, I1, g2, fun vs H2 Hs2 I2 s2 o2 => k (v :: vs) H2 Hs2 I2 (s1.trans s2) ⟨o1.mono s2, o2⟩⟩⟩)⟩
def eA (g : List D → Option D) (fa : FA) : FE := fun env => (fa env).bind fun p => (fetchs p.2 p.1).bind fun ds => (g ds).map fun z => (z, p.2)
def CV (K : PySem.W.Frag) (r : List V → Hp → VK → Prop) (g : List D → Option D) : Prop := ∀ (Hs H : Hp) (ds : List D) (z : D) (vs : List V), Same Hs H → Pks K Hs H ds vs → g ds = some z → ∃ u, Rp K Hs z u ∧ ∀ Q : VK, Q u H → r vs H Q
def CFr (K : PySem.W.Frag) (r : List V → Hp → VK → Prop) (g : List D → Option D) : Prop := ∀ (Hs H : Hp) (ds : List D) (z : D) (vs : List V), Same Hs H → Pks K Hs H ds vs → g ds = some z → ∃ o, (∀ p, Own K Hs (upd H p o) p z) ∧ ∀ Q : VK, (∀ p, H p = none → Q (.ref p) (upd H p o)) → r vs H Q
theorem aV {r : List V → Hp → VK → Prop} {g : List D → Option D} {fa : FA} (hs : CV K r g) {Q : VK} (h : rd K (eA g fa) σ H Q) : tCB r (rdA K fa) σ H Q := by
  obtain ⟨x, env, Hs, d, env', I, hf, k⟩ := h
  obtain ⟨⟨os, e2⟩, h1, h2⟩ := Option.bind_eq_some_iff.mp hf
  obtain ⟨ds, h3, h4⟩ := Option.bind_eq_some_iff.mp h2
  obtain ⟨z, h5, h6⟩ := Option.map_eq_some_iff.mp h4
  cases h6
  refine ⟨x, env, Hs, os, _, I, h1, fun vs H' Hs' I' s o => ?_⟩
  obtain ⟨u, hu, hr⟩ := hs Hs' H' ds _ vs I'.ex (I'.pks o h3) h5
  exact hr Q (k u H' Hs' I' s hu)
theorem aF {r : List V → Hp → VK → Prop} {g : List D → Option D} {fa : FA} (hs : CFr K r g) {Q : VK} (h : rdF K (eA g fa) σ H Q) : tCB r (rdA K fa) σ H Q := by
  obtain ⟨x, env, Hs, d, env', I, hf, k⟩ := h
  obtain ⟨⟨os, e2⟩, h1, h2⟩ := Option.bind_eq_some_iff.mp hf
  obtain ⟨ds, h3, h4⟩ := Option.bind_eq_some_iff.mp h2
  obtain ⟨z, h5, h6⟩ := Option.map_eq_some_iff.mp h4
  cases h6
  refine ⟨x, env, Hs, os, _, I, h1, fun vs H' Hs' I' s o => ?_⟩
  obtain ⟨ob, hu, hr⟩ := hs Hs' H' ds _ vs I'.ex (I'.pks o h3) h5
  exact hr Q fun p hp => k p _ Hs' (I'.new hp) s (hu p) (I'.hs_none hp) (I'.fm_none hp) (I'.apart hp)
theorem de_callB {id : String} {n : Str} {r : List V → Hp → VK → Prop} {g : List D → Option D} {e : Expr} {es : List Expr} {fa : FA} {p pos : Pos} (hc : CallR X (.builtin id) r) (hs : CV X.K r g) (hm : X.mg n = none) (hv : bootBuiltins n = some (.builtin id)) (ha : DA X (e :: es) fa)
    (hg : Gl X n := by rfl) (hn : n ≠ "__name__" := by decide) (hdb : (n == ("__debug__" : Str)) = false := by decide)
    (he : starEach (e :: es) X.env = (false, eval e X.env) :: starEach es X.env := by rfl) (hpl : (backTo pos (starEach es X.env)).any (·.1) = false := by rfl) : DE X (.Call (.Name n p) (e :: es) [] pos) (eA g fa) :=
  imp (pe_callB hc hg hm hv ha hn hdb he hpl) fun _ _ _ h => aV hs h
theorem df_callB {id : String} {n : Str} {r : List V → Hp → VK → Prop} {g : List D → Option D} {e : Expr} {es : List Expr} {fa : FA} {p pos : Pos} (hc : CallR X (.builtin id) r) (hs : CFr X.K r g) (hm : X.mg n = none) (hv : bootBuiltins n = some (.builtin id)) (ha : DA X (e :: es) fa)
    (hg : Gl X n := by rfl) (hn : n ≠ "__name__" := by decide) (hdb : (n == ("__debug__" : Str)) = false := by decide)
    (he : starEach (e :: es) X.env = (false, eval e X.env) :: starEach es X.env := by rfl) (hpl : (backTo pos (starEach es X.env)).any (·.1) = false := by rfl) : DF X (.Call (.Name n p) (e :: es) [] pos) (eA g fa) :=
  imp (pe_callB hc hg hm hv ha hn hdb he hpl) fun _ _ _ h => aF hs h
theorem de_callTy {T : String} {n : Str} {r : List V → Hp → VK → Prop} {g : List D → Option D} {e : Expr} {es : List Expr} {fa : FA} {p pos : Pos} (hc : CallR X (.type T) r) (hs : CV X.K r g) (hm : X.mg n = none) (hv : bootBuiltins n = some (.type T)) (ha : DA X (e :: es) fa)
    (hg : Gl X n := by rfl) (hn : n ≠ "__name__" := by decide) (hdb : (n == ("__debug__" : Str)) = false := by decide)
    (he : starEach (e :: es) X.env = (false, eval e X.env) :: starEach es X.env := by rfl) (hpl : (backTo pos (starEach es X.env)).any (·.1) = false := by rfl) : DE X (.Call (.Name n p) (e :: es) [] pos) (eA g fa) :=
  imp (pe_callTy hc hg hm hv ha hn hdb he hpl) fun _ _ _ h => aV hs h
theorem df_callTy {T : String} {n : Str} {r : List V → Hp → VK → Prop} {g : List D → Option D} {e : Expr} {es : List Expr} {fa : FA} {p pos : Pos} (hc : CallR X (.type T) r) (hs : CFr X.K r g) (hm : X.mg n = none) (hv : bootBuiltins n = some (.type T)) (ha : DA X (e :: es) fa)
    (hg : Gl X n := by rfl) (hn : n ≠ "__name__" := by decide) (hdb : (n == ("__debug__" : Str)) = false := by decide)
    (he : starEach (e :: es) X.env = (false, eval e X.env) :: starEach es X.env := by rfl) (hpl : (backTo pos (starEach es X.env)).any (·.1) = false := by rfl) : DF X (.Call (.Name n p) (e :: es) [] pos) (eA g fa) :=
  imp (pe_callTy hc hg hm hv ha hn hdb he hpl) fun _ _ _ h => aF hs h
theorem OvRs.rps {K : PySem.W.Frag} {σ : L2.St} {Hs : Hp} : ∀ {vs : List V} {ds : List D}, OvRs K σ Hs vs (ds.map Ov.d) → Rps K Hs ds vs
  | [], [], _ => by simp only [Rps]
  | v :: vs, d :: ds, h => by
    obtain ⟨a, b⟩ := h
    simp only [Rps]
    exact ⟨v, vs, rfl, a, OvRs.rps b⟩
  | [], d :: ds, h => h.elim
  | v :: vs, [], h => h.elim
def allD : List Ov → Option (List D)
  | [] => some []
  | .d d :: os => (allD os).map fun ds => d :: ds
  | .s _ :: _ => none
theorem allD_eq : ∀ {os : List Ov} {ds : List D}, allD os = some ds → os = ds.map Ov.d
  | [], _, h => by
    cases h
    rfl
  | .d d :: os, _, h => by
    obtain ⟨ds, h1, h2⟩ := Option.map_eq_some_iff.mp (show (allD os).map (fun ds => d :: ds) = some _ from h)
    cases h2
    rw [allD_eq h1]
    rfl
  | .s _ :: _, _, h => nomatch h
theorem Rps.length {K : PySem.W.Frag} {H : Hp} : ∀ {ds : List D} {vs : List V}, Rps K H ds vs → vs.length = ds.length
  | [], _, h => by
    simp only [Rps] at h
    rw [h]
    rfl
  | d :: ds, _, h => by
    simp only [Rps] at h
    obtain ⟨v, r, rfl, _, h⟩ := h
    rw [List.length_cons, List.length_cons, Rps.length h]
def eDisp (c : List D → D) (fa : FA) : FE := fun env => (fa env).bind fun p => (allD p.1).bind fun ds => if ds.length ≤ sizeLine then some (c ds, p.2) else none
theorem df_tup {es : List Expr} {fa : FA} {x1} {pos : Pos} (h : DA X es fa) : DF X (.Tuple es x1 pos) (eDisp .tup fa) := by
  refine imp (pe_tup h) fun σ H Q h => ?_
  obtain ⟨x, env, Hs, d, env', I, hf, k⟩ := h
  obtain ⟨⟨os, e2⟩, h1, h2⟩ := Option.bind_eq_some_iff.mp hf
  obtain ⟨ds, h3, h4⟩ := Option.bind_eq_some_iff.mp h2
  split at h4
  · rename_i hz
    cases h4
    have e : os = ds.map Ov.d := allD_eq h3
    refine ⟨x, env, Hs, os, _, I, h1, fun vs H' Hs' I' s o => ?_⟩
    have o : OvRs X.K σ Hs' vs os := o
    rw [e] at o
    have r := o.rps
    exact ⟨by rw [r.length]; exact hz, fun p hp => k p _ Hs' (I'.new hp) s ⟨vs, upd_same, r⟩ (I'.hs_none hp) (I'.fm_none hp) (I'.apart hp)⟩
  · cases h4
theorem df_lst {es : List Expr} {fa : FA} {pos : Pos} (h : DA X es fa) : DF X (.List es pos) (eDisp .lst fa) := by
  refine imp (pe_lst h) fun σ H Q h => ?_
  obtain ⟨x, env, Hs, d, env', I, hf, k⟩ := h
  obtain ⟨⟨os, e2⟩, h1, h2⟩ := Option.bind_eq_some_iff.mp hf
  obtain ⟨ds, h3, h4⟩ := Option.bind_eq_some_iff.mp h2
  split at h4
  · rename_i hz
    cases h4
    have e : os = ds.map Ov.d := allD_eq h3
    refine ⟨x, env, Hs, os, _, I, h1, fun vs H' Hs' I' s o => ?_⟩
    have o : OvRs X.K σ Hs' vs os := o
    rw [e] at o
    have r := o.rps
    exact ⟨by rw [r.length]; exact hz, fun p hp => k p _ Hs' (I'.new hp) s ⟨vs, upd_same, r⟩ (I'.hs_none hp) (I'.fm_none hp) (I'.apart hp)⟩
  · cases h4
end
end Qd
namespace Qd
open PySem PySem.Spec L2
abbrev S (x : List Nat) : Str := ⟨x.toArray⟩
theorem S_len (x : List Nat) : (S x).length = x.length := by
  show x.toArray.size = x.length
  simp
theorem S_app (x y : List Nat) : S x ++ S y = S (x ++ y) := by
  show (⟨x.toArray ++ y.toArray⟩ : Str) = ⟨(x ++ y).toArray⟩
  simp
theorem S_inj {x y : List Nat} (h : S x = S y) : x = y := by
  have e2 : x.toArray = y.toArray := congrArg Str.cps h
  simpa using congrArg Array.toList e2
theorem S_list (x : List Nat) : (S x).cps.toList = x := by simp [S]
def addD : D → D → Option D
  | .int i, .int j => some (.int (i + j))
  | .str a, .str b => if a.length + b.length ≤ sizeLine then some (.str (a ++ b)) else none
  | _, _ => none
def subD : D → D → Option D
  | .int i, .int j => some (.int (i - j))
  | _, _ => none
def mulD : D → D → Option D
  | .int i, .int j => if (-(2 ^ 64) < i ∧ i < 2 ^ 64) ∨ (-(2 ^ 64) < j ∧ j < 2 ^ 64) then some (.int (i * j)) else none
  | .str a, .int j => if 0 ≤ j ∧ j < 1000000 ∧ a.length * j.toNat ≤ sizeLine then some (.str (List.replicate j.toNat a).flatten) else none
  | _, _ => none
def modD : D → D → Option D
  | .int i, .int j => if 0 < j then some (.int (i % j)) else none
  | _, _ => none
def fdivD : D → D → Option D
  | .int i, .int j => if 0 < j ∧ j < 1073741824 then some (.int (i / j)) else none
  | _, _ => none
def powD : D → D → Option D
  | .int i, .int j => if 0 ≤ j ∧ j ≤ 1000000 ∧ i.natAbs < 2 ^ 64 then some (.int (i ^ j.toNat)) else none
  | _, _ => none
section
variable {X : Cx} {K : PySem.W.Frag}
def rAdd : R2 := fun x y H Q => rI0 (fun i j => .int (i + j)) x y H Q ∨ ∃ i j, x = .str i ∧ y = .str j ∧ i.length + j.length ≤ sizeLine ∧ Q (.str (i ++ j)) H
theorem op_addD : OpR X (binaryOp .Add) rAdd := OpR.or op_add op_add_str
theorem ov_add : OV2 K rAdd addD := by
  intro Hs H d e z v w ex p1 p2 h
  cases d <;> cases e <;> try (cases h; done)
  · rename_i i j
    cases h
    have p1 : v = .int i := p1
    have p2 : w = .int j := p2
    subst p1 p2
    exact ⟨.int (i + j), by simp only [Rp], fun Q q => .inl ⟨i, j, rfl, rfl, q⟩⟩
  · rename_i a b
    have p1 : v = .str (S a) := p1
    have p2 : w = .str (S b) := p2
    subst p1 p2
    have h : (if a.length + b.length ≤ sizeLine then some (D.str (a ++ b)) else none) = some z := h
    split at h
    · rename_i hz
      cases h
      refine ⟨.str (S (a ++ b)), by simp only [Rp], fun Q q => .inr ⟨S a, S b, rfl, rfl, by rw [S_len, S_len]; exact hz, by rw [S_app]; exact q⟩⟩
    · cases h
theorem ov_sub : OV2 K (rI0 fun i j => .int (i - j)) subD := by
  intro Hs H d e z v w ex p1 p2 h
  cases d <;> cases e <;> try (cases h; done)
  rename_i i j
  cases h
  have p1 : v = .int i := p1
  have p2 : w = .int j := p2
  subst p1 p2
  exact ⟨.int (i - j), by simp only [Rp], fun Q q => ⟨i, j, rfl, rfl, q⟩⟩
def rMulS : R2 := fun x y H Q => ∃ (a : Str) (j : Int), x = .str a ∧ y = .int j ∧ 0 ≤ j ∧ j < 1000000 ∧ a.length * j.toNat ≤ sizeLine ∧ Q (.str (S (List.replicate j.toNat a.cps.toList).flatten)) H
def rMul : R2 := fun x y H Q => rI CMul (fun i j => .int (i * j)) x y H Q ∨ rMulS x y H Q
theorem ov_mul : OV2 K rMul mulD := by
  intro Hs H d e z v w ex p1 p2 h
  cases d <;> cases e <;> try (cases h; done)
  · rename_i i j
    have p1 : v = .int i := p1
    have p2 : w = .int j := p2
    subst p1 p2
    have h : (if (-(2 ^ 64) < i ∧ i < 2 ^ 64) ∨ (-(2 ^ 64) < j ∧ j < 2 ^ 64) then some (D.int (i * j)) else none) = some z := h
    split at h
    · rename_i hz
      cases h
      exact ⟨.int (i * j), by simp only [Rp], fun Q q => .inl ⟨i, j, rfl, rfl, hz, q⟩⟩
    · cases h
  · rename_i a j
    have p1 : v = .str (S a) := p1
    have p2 : w = .int j := p2
    subst p1 p2
    have h : (if 0 ≤ j ∧ j < 1000000 ∧ a.length * j.toNat ≤ sizeLine then some (D.str (List.replicate j.toNat a).flatten) else none) = some z := h
    split at h
    · rename_i hz
      cases h
      exact ⟨.str (S (List.replicate j.toNat a).flatten), by simp only [Rp], fun Q q => .inr ⟨S a, j, rfl, rfl, hz.1, hz.2.1, by rw [S_len]; exact hz.2.2, q⟩⟩
    · cases h
theorem ov_mod : OV2 K (rI (fun _ j => 0 < j) fun i j => .int (i % j)) modD := by
  intro Hs H d e z v w ex p1 p2 h
  cases d <;> cases e <;> try (cases h; done)
  rename_i i j
  have p1 : v = .int i := p1
  have p2 : w = .int j := p2
  subst p1 p2
  have h : (if 0 < j then some (D.int (i % j)) else none) = some z := h
  split at h
  · rename_i hz
    cases h
    exact ⟨.int (i % j), by simp only [Rp], fun Q q => ⟨i, j, rfl, rfl, hz, q⟩⟩
  · cases h
theorem ov_fdiv : OV2 K (rI CDivN fun i j => .int (i.fdiv j)) fdivD := by
  intro Hs H d e z v w ex p1 p2 h
  cases d <;> cases e <;> try (cases h; done)
  rename_i i j
  have p1 : v = .int i := p1
  have p2 : w = .int j := p2
  subst p1 p2
  have h : (if 0 < j ∧ j < 1073741824 then some (D.int (i / j)) else none) = some z := h
  split at h
  · rename_i hz
    cases h
    refine ⟨.int (i / j), by simp only [Rp], fun Q q => ⟨i, j, rfl, rfl, ⟨by omega, by omega⟩, ?_⟩⟩
    show Q (.int (i.fdiv j)) H
    rw [Int.fdiv_eq_ediv_of_nonneg i (by omega)]
    exact q
  · cases h
theorem ov_pow : OV2 K (rI CPow fun i j => .int (i ^ j.toNat)) powD := by
  intro Hs H d e z v w ex p1 p2 h
  cases d <;> cases e <;> try (cases h; done)
  rename_i i j
  have p1 : v = .int i := p1
  have p2 : w = .int j := p2
  subst p1 p2
  have h : (if 0 ≤ j ∧ j ≤ 1000000 ∧ i.natAbs < 2 ^ 64 then some (D.int (i ^ j.toNat)) else none) = some z := h
  split at h
  · rename_i hz
    cases h
    exact ⟨.int (i ^ j.toNat), by simp only [Rp], fun Q q => ⟨i, j, rfl, rfl, hz, q⟩⟩
  · cases h
theorem foldl_rep (c : Array Nat) : ∀ (n : Nat) (acc : Array Nat), (List.replicate n c).foldl (· ++ ·) acc = acc ++ (List.replicate n c.toList).flatten.toArray
  | 0, acc => by simp
  | n + 1, acc => by
    rw [List.replicate_succ, List.foldl_cons, foldl_rep c n, List.replicate_succ, List.flatten_cons]
    apply Array.ext'
    simp
theorem op_mulS : OpR X (binaryOp .Mult) rMulS := by
  intro pins s σ H x y v u Q I rx ry h
  obtain ⟨a, j, rfl, rfl, h0, h1, hz, q⟩ := h
  obtain ⟨t, rfl⟩ := rx
  obtain ⟨t', rfl⟩ := ry
  have hlen : a.length = a.cps.toList.length := by
    show a.cps.size = _
    simp
  by_cases hj : j < 1
  · have e : j = 0 := by omega
    subst e
    refine PySem.P.mul_str_none hj (by omega) ?_
    exact ⟨.str Str.empty, H, I.tok _, ⟨_, rfl⟩, q⟩
  · have hjn : 1 ≤ j.toNat := by omega
    refine PySem.P.mul_str ?_ (fun _ _ => ?_) (fun _ _ => ?_) ?_
    · rw [decide_eq_false (show ¬ j < -(2 ^ 63 : Int) by omega), decide_eq_false (show ¬ j ≥ 2 ^ 63 by omega)]
      rfl
    · have hs : (sizeLine : Int) = 16777216 := by decide
      have h2 : a.length ≤ a.length * j.toNat := Nat.le_mul_of_pos_right _ hjn
      have h3 : (a.length : Int) ≤ 16777216 := by omega
      have h4 : (9223372036854 : Int) ≤ (2 ^ 63 - 1) / j := by
        apply Int.le_ediv_of_mul_le (by omega)
        omega
      omega
    · exact decide_eq_false (show ¬ a.length * j.toNat > sizeLine by omega)
    · rw [if_neg hj]
      by_cases h1 : (j == 1 || a.length == 0) = true
      · rw [if_pos h1]
        refine ⟨.str a, H, I, ⟨_, rfl⟩, ?_⟩
        have e : S (List.replicate j.toNat a.cps.toList).flatten = a := by
          rcases Bool.or_eq_true_iff.mp h1 with h2 | h2
          · have e1 : j = 1 := by simpa using h2
            subst e1
            show (⟨_⟩ : Str) = a
            simp
          · have e0 : a.cps.toList = [] := by
              apply List.eq_nil_of_length_eq_zero
              rw [← hlen]
              simpa using h2
            rw [e0]
            have : a = S [] := by
              cases a with | mk c =>
              show (⟨c⟩ : Str) = ⟨_⟩
              congr 1
              simpa using e0
            rw [this]
            simp
        rw [e] at q
        exact q
      · rw [if_neg h1]
        have e : (⟨(List.replicate j.toNat a.cps).foldl (· ++ ·) #[]⟩ : Str) = S (List.replicate j.toNat a.cps.toList).flatten := by
          rw [foldl_rep]
          simp
        rw [e]
        refine ⟨?_, ⟨.str (S (List.replicate j.toNat a.cps.toList).flatten), H, I.tok _, ⟨_, rfl⟩, q⟩⟩
        rw [S_len, List.length_flatten]
        simp only [List.map_replicate, List.sum_replicate_nat]
        rw [← hlen, Nat.mul_comm]
        exact hz
theorem op_mulD : OpR X (binaryOp .Mult) rMul := OpR.or op_mul op_mulS
def ltD : D → D → Option D
  | .int i, .int j => some (.bl (decide (i < j)))
  | .str a, .str b => some (.bl (decide (a < b)))
  | _, _ => none
def leD : D → D → Option D
  | .int i, .int j => some (.bl (decide (i ≤ j)))
  | .str a, .str b => some (.bl (!decide (b < a)))
  | _, _ => none
def gtD : D → D → Option D := fun a b => ltD b a
def geD : D → D → Option D := fun a b => leD b a
def rLtD : R2 := fun x y H Q => rI0 (fun i j => .bl (decide (i < j))) x y H Q ∨ ∃ i j, x = .str i ∧ y = .str j ∧ Q (.bl (decide (i.cps.toList < j.cps.toList))) H
def rLeD : R2 := fun x y H Q => rI0 (fun i j => .bl (decide (i ≤ j))) x y H Q ∨ ∃ i j, x = .str i ∧ y = .str j ∧ Q (.bl (!decide (j.cps.toList < i.cps.toList))) H
def rGtD : R2 := fun x y H Q => rI0 (fun i j => .bl (decide (j < i))) x y H Q ∨ ∃ i j, x = .str i ∧ y = .str j ∧ Q (.bl (decide (j.cps.toList < i.cps.toList))) H
def rGeD : R2 := fun x y H Q => rI0 (fun i j => .bl (decide (j ≤ i))) x y H Q ∨ ∃ i j, x = .str i ∧ y = .str j ∧ Q (.bl (!decide (i.cps.toList < j.cps.toList))) H
theorem op_ltD : OpR X (compareOp .Lt) rLtD := OpR.or op_lt op_lt_str
theorem op_leD : OpR X (compareOp .LtE) rLeD := OpR.or op_le op_le_str
theorem op_gtD : OpR X (compareOp .Gt) rGtD := OpR.or op_gt op_gt_str
theorem op_geD : OpR X (compareOp .GtE) rGeD := OpR.or op_ge op_ge_str
theorem ov_lt : OV2 K rLtD ltD := by
  intro Hs H d e z v w ex p1 p2 h
  cases d <;> cases e <;> try (cases h; done)
  · rename_i i j
    cases h
    have p1 : v = .int i := p1
    have p2 : w = .int j := p2
    subst p1 p2
    exact ⟨.bl (decide (i < j)), by simp only [Rp], fun Q q => .inl ⟨i, j, rfl, rfl, q⟩⟩
  · rename_i a b
    cases h
    have p1 : v = .str (S a) := p1
    have p2 : w = .str (S b) := p2
    subst p1 p2
    exact ⟨.bl (decide (a < b)), by simp only [Rp], fun Q q => .inr ⟨S a, S b, rfl, rfl, by rw [S_list, S_list]; exact q⟩⟩
theorem ov_le : OV2 K rLeD leD := by
  intro Hs H d e z v w ex p1 p2 h
  cases d <;> cases e <;> try (cases h; done)
  · rename_i i j
    cases h
    have p1 : v = .int i := p1
    have p2 : w = .int j := p2
    subst p1 p2
    exact ⟨.bl (decide (i ≤ j)), by simp only [Rp], fun Q q => .inl ⟨i, j, rfl, rfl, q⟩⟩
  · rename_i a b
    cases h
    have p1 : v = .str (S a) := p1
    have p2 : w = .str (S b) := p2
    subst p1 p2
    exact ⟨.bl (!decide (b < a)), by simp only [Rp], fun Q q => .inr ⟨S a, S b, rfl, rfl, by rw [S_list, S_list]; exact q⟩⟩
theorem ov_gt : OV2 K rGtD gtD := by
  intro Hs H d e z v w ex p1 p2 h
  cases d <;> cases e <;> try (cases h; done)
  · rename_i i j
    cases h
    have p1 : v = .int i := p1
    have p2 : w = .int j := p2
    subst p1 p2
    exact ⟨.bl (decide (j < i)), by simp only [Rp], fun Q q => .inl ⟨i, j, rfl, rfl, q⟩⟩
  · rename_i a b
    cases h
    have p1 : v = .str (S a) := p1
    have p2 : w = .str (S b) := p2
    subst p1 p2
    exact ⟨.bl (decide (b < a)), by simp only [Rp], fun Q q => .inr ⟨S a, S b, rfl, rfl, by rw [S_list, S_list]; exact q⟩⟩
theorem ov_ge : OV2 K rGeD geD := by
  intro Hs H d e z v w ex p1 p2 h
  cases d <;> cases e <;> try (cases h; done)
  · rename_i i j
    cases h
    have p1 : v = .int i := p1
    have p2 : w = .int j := p2
    subst p1 p2
    exact ⟨.bl (decide (j ≤ i)), by simp only [Rp], fun Q q => .inl ⟨i, j, rfl, rfl, q⟩⟩
  · rename_i a b
    cases h
    have p1 : v = .str (S a) := p1
    have p2 : w = .str (S b) := p2
    subst p1 p2
    exact ⟨.bl (!decide (a < b)), by simp only [Rp], fun Q q => .inr ⟨S a, S b, rfl, rfl, by rw [S_list, S_list]; exact q⟩⟩
mutual
def toPy : D → PyData
  | .non => .none
  | .bl b => .bool b
  | .int i => .int i
  | .str x => .str (S x)
  | .tup ds => .tuple (toPys ds)
  | .lst ds => .list (toPys ds)
  | _ => .dict []
def toPys : List D → List PyData
  | [] => []
  | d :: ds => toPy d :: toPys ds
end
section
variable {H : Hp}
mutual
theorem Rp.dp : ∀ (d : D) {v : V}, Rp K H d v → PyData.canLay0 (toPy d) = true → Dp K H v (toPy d)
  | .non, _, h, _ => by simp only [Rp] at h; subst h; simp only [toPy]; exact .non
  | .bl _, _, h, _ => by simp only [Rp] at h; subst h; simp only [toPy]; exact .bl _
  | .int _, _, h, _ => by simp only [Rp] at h; subst h; simp only [toPy]; exact .int _
  | .str _, _, h, _ => by simp only [Rp] at h; subst h; simp only [toPy]; exact .str _
  | .tup ds, _, h, c => by
    simp only [Rp] at h
    obtain ⟨a, vs, rfl, h2, h3⟩ := h
    simp only [toPy]
    refine .tup h2 (Rps.dp ds h3 ?_)
    simpa only [toPy, PyData.canLay0] using c
  | .lst ds, _, h, c => by
    simp only [Rp] at h
    obtain ⟨a, vs, rfl, h2, h3⟩ := h
    simp only [toPy]
    refine .lst (SqL.of h2) (Rps.dp ds h3 ?_)
    simpa only [toPy, PyData.canLay0] using c
  | .dic _, _, _, c => by simp only [toPy, PyData.canLay0] at c; cases c
  | .obj _ _, _, _, c => by simp only [toPy, PyData.canLay0] at c; cases c
  | .scr _, _, _, c => by simp only [toPy, PyData.canLay0] at c; cases c
  | .cls _, _, _, c => by simp only [toPy, PyData.canLay0] at c; cases c
  | .ty _, _, _, c => by simp only [toPy, PyData.canLay0] at c; cases c
theorem Rps.dp : ∀ (ds : List D) {vs : List V}, Rps K H ds vs → PyData.canLayAll0 (toPys ds) = true → DpAll K H vs (toPys ds)
  | [], _, h, _ => by simp only [Rps] at h; subst h; simp only [toPys]; exact .nil
  | d :: ds, _, h, c => by
    simp only [Rps] at h
    obtain ⟨v, r, rfl, h2, h3⟩ := h
    simp only [toPys, PyData.canLayAll0, Bool.and_eq_true] at c
    simp only [toPys]
    exact .cons (Rp.dp d h2 c.1) (Rps.dp ds h3 c.2)
end
end
def shp (d : D) : Bool := SeqAt.shaped (toPy d)
def flat : D → Bool
  | .non => true
  | .bl _ => true
  | .int _ => true
  | .str _ => true
  | _ => false
/-- flat data are compared whatever they are -/
def eqB (d e : D) : Bool := PyData.eqv (toPy d) (toPy e)
def eqD : D → D → Option D
  | .str a, .str b => some (.bl (decide (a = b)))
  | d, e => if shp d && shp e then some (.bl (eqB d e)) else none
def neD : D → D → Option D := fun d e => (eqD d e).bind fun
  | .bl b => some (.bl (!b))
  | _ => none
def rEqX (K : PySem.W.Frag) : R2 := fun x y H Q => rEq x y H Q ∨ rEqD K x y H Q
def rNeX (K : PySem.W.Frag) : R2 := fun x y H Q => rNe x y H Q ∨ rNeD K x y H Q
theorem op_eqX (hu : X.A.units + 64 < cLine) : OpR X (compareOp .Eq) (rEqX X.K) := OpR.or op_eq (op_eqD hu)
theorem op_neX (hu : X.A.units + 64 < cLine) : OpR X (compareOp .NotEq) (rNeX X.K) := OpR.or op_ne (op_neD hu)
theorem eqD_cases {d e z : D} (h : eqD d e = some z) : (∃ a b, d = .str a ∧ e = .str b ∧ z = .bl (decide (a = b))) ∨ (shp d = true ∧ shp e = true ∧ z = .bl (eqB d e)) := by
  unfold eqD at h
  split at h
  · cases h
    exact .inl ⟨_, _, rfl, rfl, rfl⟩
  · split at h
    · rename_i hs
      cases h
      simp only [Bool.and_eq_true] at hs
      exact .inr ⟨hs.1, hs.2, rfl⟩
    · cases h
theorem ov_eq : OV2 K (rEqX K) eqD := by
  intro Hs H d e z v w ex p1 p2 h
  rcases eqD_cases h with ⟨a, b, rfl, rfl, rfl⟩ | ⟨h1, h2, rfl⟩
  · have p1 : v = .str (S a) := p1
    have p2 : w = .str (S b) := p2
    subst p1 p2
    refine ⟨.bl (decide (a = b)), by simp only [Rp], fun Q q => .inl ⟨rfl, ?_⟩⟩
    have e : decide (V.str (S a) = V.str (S b)) = decide (a = b) := by
      by_cases hab : a = b
      · subst hab
        simp
      · rw [decide_eq_false hab, decide_eq_false fun z => hab (S_inj (V.str.inj z))]
    rw [e]
    exact q
  · refine ⟨.bl (eqB d e), by simp only [Rp], fun Q q => .inr ⟨toPy d, toPy e, Rp.dp d (p1.rp ex) (SeqAt.canLay_of_shaped h1), Rp.dp e (p2.rp ex) (SeqAt.canLay_of_shaped h2), h1, h2, q⟩⟩
theorem ov_ne : OV2 K (rNeX K) neD := by
  intro Hs H d e z v w ex p1 p2 h
  obtain ⟨z1, hz1, h⟩ := Option.bind_eq_some_iff.mp h
  rcases eqD_cases hz1 with ⟨a, b, rfl, rfl, rfl⟩ | ⟨h1, h2, rfl⟩
  · cases h
    have p1 : v = .str (S a) := p1
    have p2 : w = .str (S b) := p2
    subst p1 p2
    refine ⟨.bl (!decide (a = b)), by simp only [Rp], fun Q q => .inl ⟨rfl, ?_⟩⟩
    have e : decide (V.str (S a) = V.str (S b)) = decide (a = b) := by
      by_cases hab : a = b
      · subst hab
        simp
      · rw [decide_eq_false hab, decide_eq_false fun z => hab (S_inj (V.str.inj z))]
    rw [e]
    exact q
  · cases h
    refine ⟨.bl (!eqB d e), by simp only [Rp], fun Q q => .inr ⟨toPy d, toPy e, Rp.dp d (p1.rp ex) (SeqAt.canLay_of_shaped h1), Rp.dp e (p2.rp ex) (SeqAt.canLay_of_shaped h2), h1, h2, q⟩⟩
def isNon : D → Bool
  | .non => true
  | _ => false
def isN : D → D → Option D
  | d, .non => some (.bl (isNon d))
  | _, _ => none
def notN : D → D → Option D
  | d, .non => some (.bl (!isNon d))
  | _, _ => none
theorem pk_non {Hs H : Hp} {d : D} {v : V} (p : Pk K Hs H d v) : decide (v = .non) = isNon d := by
  cases d with
  | non =>
    have p : v = .non := p
    subst p
    rfl
  | bl b =>
    have p : v = .bl b := p
    subst p
    rfl
  | int b =>
    have p : v = .int b := p
    subst p
    rfl
  | str b =>
    have p : v = .str (S b) := p
    subst p
    rfl
  | cls b =>
    have p : v = .ref (He.ga K b) := p
    subst p
    rfl
  | ty b =>
    have p : v = .ty b := p
    subst p
    rfl
  | tup ds => obtain ⟨a, vs, rfl, _⟩ := p; rfl
  | lst ds => obtain ⟨a, vs, rfl, _⟩ := p; rfl
  | dic ds => obtain ⟨a, vs, rfl, _⟩ := p; rfl
  | obj c ds => obtain ⟨a, dx, vs, rfl, _⟩ := p; rfl
  | scr ns => obtain ⟨a, rfl, _⟩ := p; rfl
theorem ov_isN : OV2 K (fun x y H Q => y = .non ∧ Q (.bl (decide (x = .non))) H) isN := by
  intro Hs H d e z v w ex p1 p2 h
  cases e <;> try (cases h; done)
  have h : some (D.bl (isNon d)) = some z := h
  cases h
  have p2 : w = .non := p2
  exact ⟨.bl (isNon d), by simp only [Rp], fun Q q => ⟨p2, by rw [pk_non p1]; exact q⟩⟩
theorem ov_notN : OV2 K (fun x y H Q => y = .non ∧ Q (.bl (!decide (x = .non))) H) notN := by
  intro Hs H d e z v w ex p1 p2 h
  cases e <;> try (cases h; done)
  have h : some (D.bl (!isNon d)) = some z := h
  cases h
  have p2 : w = .non := p2
  exact ⟨.bl (!isNon d), by simp only [Rp], fun Q q => ⟨p2, by rw [pk_non p1]; exact q⟩⟩
end
end Qd
namespace Qd
open PySem PySem.Spec L2
section
variable {X : Cx} {K : PySem.W.Frag}
theorem Rps.get {H : Hp} : ∀ {ds : List D} {vs : List V} {i : Nat} {d : D}, Rps K H ds vs → ds[i]? = some d → ∃ v, vs[i]? = some v ∧ Rp K H d v
  | [], _, _, _, _, h => by simp at h
  | e :: ds, _, 0, d, r, h => by
    simp only [Rps] at r
    obtain ⟨v, r', rfl, h1, h2⟩ := r
    have e0 : e = d := by simpa using h
    subst e0
    exact ⟨v, rfl, h1⟩
  | e :: ds, _, i + 1, d, r, h => by
    simp only [Rps] at r
    obtain ⟨v, r', rfl, h1, h2⟩ := r
    obtain ⟨w, a, b⟩ := Rps.get (i := i) (d := d) h2 (by simpa using h)
    exact ⟨w, by simpa using a, b⟩
theorem Rps.append {H : Hp} : ∀ {ds es : List D} {vs ws : List V}, Rps K H ds vs → Rps K H es ws → Rps K H (ds ++ es) (vs ++ ws)
  | [], _, _, _, r, s => by
    simp only [Rps] at r
    subst r
    exact s
  | d :: ds, _, _, _, r, s => by
    simp only [Rps] at r
    obtain ⟨v, r', rfl, h1, h2⟩ := r
    simp only [List.cons_append, Rps]
    exact ⟨v, _, rfl, h1, Rps.append h2 s⟩
theorem Rps.take {H : Hp} : ∀ {ds : List D} {vs : List V} (n : Nat), Rps K H ds vs → Rps K H (ds.take n) (vs.take n)
  | _, _, 0, _ => by simp only [List.take_zero, Rps]
  | [], _, n + 1, r => by
    simp only [Rps] at r
    subst r
    simp only [List.take_nil, Rps]
  | d :: ds, _, n + 1, r => by
    simp only [Rps] at r
    obtain ⟨v, r', rfl, h1, h2⟩ := r
    simp only [List.take_succ_cons, Rps]
    exact ⟨v, _, rfl, h1, Rps.take n h2⟩
theorem Rps.drop {H : Hp} : ∀ {ds : List D} {vs : List V} (n : Nat), Rps K H ds vs → Rps K H (ds.drop n) (vs.drop n)
  | _, _, 0, r => r
  | [], _, n + 1, r => by
    simp only [Rps] at r
    subst r
    simp only [List.drop_nil, Rps]
  | d :: ds, _, n + 1, r => by
    simp only [Rps] at r
    obtain ⟨v, r', rfl, h1, h2⟩ := r
    exact Rps.drop n h2
theorem Rps.set {H : Hp} : ∀ {ds : List D} {vs : List V} (n : Nat) {d : D} {v : V}, Rps K H ds vs → Rp K H d v → Rps K H (ds.set n d) (vs.set n v)
  | [], _, _, _, _, r, _ => by
    simp only [Rps] at r
    subst r
    simp only [List.set_nil, Rps]
  | e :: ds, _, 0, d, v, r, h => by
    simp only [Rps] at r
    obtain ⟨w, r', rfl, h1, h2⟩ := r
    simp only [List.set_cons_zero, Rps]
    exact ⟨v, _, rfl, h, h2⟩
  | e :: ds, _, n + 1, d, v, r, h => by
    simp only [Rps] at r
    obtain ⟨w, r', rfl, h1, h2⟩ := r
    simp only [List.set_cons_succ, Rps]
    exact ⟨w, _, rfl, h1, Rps.set n h2 h⟩
theorem Rps.eraseIdx {H : Hp} : ∀ {ds : List D} {vs : List V} (n : Nat), Rps K H ds vs → Rps K H (ds.eraseIdx n) (vs.eraseIdx n)
  | [], _, _, r => by
    simp only [Rps] at r
    subst r
    simp only [List.eraseIdx_nil, Rps]
  | e :: ds, _, 0, r => by
    simp only [Rps] at r
    obtain ⟨w, r', rfl, h1, h2⟩ := r
    exact h2
  | e :: ds, _, n + 1, r => by
    simp only [Rps] at r
    obtain ⟨w, r', rfl, h1, h2⟩ := r
    simp only [List.eraseIdx_cons_succ, Rps]
    exact ⟨w, _, rfl, h1, Rps.eraseIdx n h2⟩
theorem Rps.ints {H : Hp} : ∀ {ns : List Int} {vs : List V}, Rps K H (ns.map D.int) vs → vs = ns.map V.int
  | [], _, r => by simpa only [List.map_nil, Rps] using r
  | n :: ns, _, r => by
    simp only [List.map_cons, Rps] at r
    obtain ⟨v, r', rfl, h1, h2⟩ := r
    simp only [Rp] at h1
    rw [h1, Rps.ints h2]
    rfl
theorem Rps.bls {H : Hp} : ∀ {ns : List Bool} {vs : List V}, Rps K H (ns.map D.bl) vs → vs = ns.map V.bl
  | [], _, r => by simpa only [List.map_nil, Rps] using r
  | n :: ns, _, r => by
    simp only [List.map_cons, Rps] at r
    obtain ⟨v, r', rfl, h1, h2⟩ := r
    simp only [Rp] at h1
    rw [h1, Rps.bls h2]
    rfl
theorem Rps.strs {H : Hp} : ∀ {ns : List (List Nat)} {vs : List V}, Rps K H (ns.map D.str) vs → vs = (ns.map S).map V.str
  | [], _, r => by simpa only [List.map_nil, Rps] using r
  | n :: ns, _, r => by
    simp only [List.map_cons, Rps] at r
    obtain ⟨v, r', rfl, h1, h2⟩ := r
    simp only [Rp] at h1
    rw [h1, Rps.strs h2]
    rfl
theorem Rps.of_strs {H : Hp} : ∀ (ns : List (List Nat)), Rps K H (ns.map D.str) ((ns.map S).map V.str)
  | [] => by simp only [List.map_nil, Rps]
  | n :: ns => by
    simp only [List.map_cons, Rps]
    exact ⟨_, _, rfl, by simp only [Rp], Rps.of_strs ns⟩
theorem Rps.of_ints {H : Hp} : ∀ (ns : List Int), Rps K H (ns.map D.int) (ns.map V.int)
  | [] => by simp only [List.map_nil, Rps]
  | n :: ns => by
    simp only [List.map_cons, Rps]
    exact ⟨_, _, rfl, by simp only [Rp], Rps.of_ints ns⟩
theorem flat_v {Hs H : Hp} {d : D} {v : V} (h : flat d = true) (p : Rp K H d v) : flatV v = true := by
  cases d <;> first | (simp only [flat] at h; cases h; done) | (simp only [Rp] at p; subst p; rfl)
theorem eqV_eqB {H H' : Hp} {d e : D} {v w : V} (hd : flat d = true) (he : flat e = true) (p : Rp K H d v) (q : Rp K H' e w) : eqV v w = eqB d e := by
  cases d <;> first | (simp only [flat] at hd; cases hd; done) | skip
  all_goals (cases e <;> first | (simp only [flat] at he; cases he; done) | skip)
  all_goals (simp only [Rp] at p q; subst p q; rfl)
theorem inV_in {H H' : Hp} {d : D} {v : V} (hd : flat d = true) (p : Rp K H d v) : ∀ {ds : List D} {vs : List V}, ds.all flat = true → Rps K H' ds vs → inV v vs = ds.any fun e => eqB e d
  | [], _, _, r => by
    simp only [Rps] at r
    subst r
    rfl
  | e :: ds, _, ha, r => by
    simp only [Rps] at r
    obtain ⟨w, r', rfl, h1, h2⟩ := r
    simp only [List.all_cons, Bool.and_eq_true] at ha
    have ih := inV_in hd p ha.2 h2
    unfold inV at ih ⊢
    rw [List.any_cons, List.any_cons, eqV_eqB ha.1 hd h1 p, ih]
theorem flats_v {H : Hp} : ∀ {ds : List D} {vs : List V}, ds.all flat = true → Rps K H ds vs → vs.all flatV = true
  | [], _, _, r => by
    simp only [Rps] at r
    subst r
    rfl
  | e :: ds, _, ha, r => by
    simp only [Rps] at r
    obtain ⟨w, r', rfl, h1, h2⟩ := r
    simp only [List.all_cons, Bool.and_eq_true] at ha ⊢
    exact ⟨flat_v (Hs := H) ha.1 h1, flats_v ha.2 h2⟩
def valD (kvs : List (Ky × D)) (k : Ky) : Option D := (kvs.find? fun kv => decide (kv.1 = k)).map (·.2)
def kyOf : D → Option Ky
  | .int i => some (.i i)
  | .str x => some (.s x)
  | _ => none
theorem kyOf_v {Hs H : Hp} {d : D} {v : V} {k : Ky} (h : kyOf d = some k) (p : Pk K Hs H d v) : v = kV k.key := by
  cases d <;> first | (simp only [kyOf] at h; cases h; done) | skip
  · cases h
    exact p
  · cases h
    exact p
theorem RpK.val {H : Hp} {k : Ky} : ∀ {kvs : List (Ky × D)} {ks : List (Key × V)}, RpK K H kvs ks → (∀ d, valD kvs k = some d → ∃ v, valV ks k.key = some v ∧ Rp K H d v) ∧ (valD kvs k = none → valV ks k.key = none)
  | [], _, r => by
    simp only [RpK] at r
    subst r
    exact ⟨fun d h => (by cases h), fun _ => rfl⟩
  | (k', d') :: kvs, _, r => by
    simp only [RpK] at r
    obtain ⟨w, r', rfl, h1, h2⟩ := r
    have ih := RpK.val (k := k) h2
    by_cases e : k' = k
    · subst e
      have e1 : valD ((k', d') :: kvs) k' = some d' := by simp [valD, List.find?_cons]
      rw [e1]
      exact ⟨fun d h => by cases h; exact ⟨w, valV_pos rfl, h1⟩, fun h => by cases h⟩
    · have e1 : valD ((k', d') :: kvs) k = valD kvs k := by simp [valD, List.find?_cons, e]
      rw [e1, valV_neg (fun z => e (Ky.key_inj z))]
      exact ih
def inD : D → D → Option D
  | d, .lst ds => if flat d && ds.all flat then some (.bl (ds.any fun e => eqB e d)) else if shp d && shp (.lst ds) then some (.bl (ds.any fun e => eqB e d)) else none
  | d, .tup ds => if flat d && ds.all flat then some (.bl (ds.any fun e => eqB e d)) else none
  | .str [c], .str z => some (.bl (decide (c ∈ z)))
  | d, .dic kvs => (kyOf d).map fun k => .bl (valD kvs k).isSome
  | _, _ => none
def notD (o : Option D) : Option D := o.bind fun
  | .bl b => some (.bl (!b))
  | _ => none
def notInD : D → D → Option D := fun a b => notD (inD a b)
def rInS : R2 := fun x y H Q => ∃ (c : Nat) (z : Str), x = .str ⟨#[c]⟩ ∧ y = .str z ∧ Q (.bl (decide (c ∈ z.cps.toList))) H
def rInK : R2 := fun x y H Q => ∃ (a : Addr) (o : Option V), y = .ref a ∧ DGet H a x o ∧ Q (.bl o.isSome) H
def rInX (K : PySem.W.Frag) : R2 := fun x y H Q => (rIn K false x y H Q ∨ rInD K x y H Q) ∨ (rInS x y H Q ∨ rInK x y H Q)
def rNotInS : R2 := fun x y H Q => ∃ (c : Nat) (z : Str), x = .str ⟨#[c]⟩ ∧ y = .str z ∧ Q (.bl (!decide (c ∈ z.cps.toList))) H
def rNotInK : R2 := fun x y H Q => ∃ (a : Addr) (o : Option V), y = .ref a ∧ DGet H a x o ∧ Q (.bl (!o.isSome)) H
def rNotInX (K : PySem.W.Frag) : R2 := fun x y H Q => (rIn K true x y H Q ∨ rNotInD K x y H Q) ∨ (rNotInS x y H Q ∨ rNotInK x y H Q)
theorem op_inK (hu : X.A.units + 1 < cLine) : OpR X (compareOp .In) rInK := by
  intro pins s σ H x y v u Q I rx ry h
  obtain ⟨a, o, rfl, g, q⟩ := h
  cases ry
  exact d_in hu I g rx fun s3 I3 => ⟨.bl o.isSome, H, I3, rfl, q⟩
theorem op_notInK (hu : X.A.units + 1 < cLine) : OpR X (compareOp .NotIn) rNotInK := by
  intro pins s σ H x y v u Q I rx ry h
  obtain ⟨a, o, rfl, g, q⟩ := h
  cases ry
  exact d_notIn hu I g rx fun s3 I3 => ⟨.bl (!o.isSome), H, I3, rfl, q⟩
theorem op_inX (hu : X.A.units + 65 < cLine) : OpR X (compareOp .In) (rInX X.K) := OpR.or (OpR.or op_in_seq (op_inD hu)) (OpR.or op_in_sign (op_inK (by omega)))
theorem op_notInX (hu : X.A.units + 65 < cLine) : OpR X (compareOp .NotIn) (rNotInX X.K) := OpR.or (OpR.or op_notIn_seq (op_notInD hu)) (OpR.or op_notIn_sign (op_notInK (by omega)))
theorem any_toPys {d : D} : ∀ (ds : List D), ((toPys ds).any fun z => PyData.eqv z (toPy d)) = ds.any fun e => eqB e d
  | [] => rfl
  | e :: ds => by
    simp only [toPys, List.any_cons]
    rw [any_toPys ds]
    rfl
/-- both at once -/
theorem in_core {Hs H : Hp} {d e z : D} {v w : V} (ex : Same Hs H) (p1 : Pk K Hs H d v) (p2 : Pk K Hs H e w) (h : inD d e = some z) : ∃ b, z = .bl b ∧ (∀ Q : VK, Q (.bl b) H → rInX K v w H Q) ∧ ∀ Q : VK, Q (.bl (!b)) H → rNotInX K v w H Q := by
  have r1 := p1.rp ex
  cases e with
  | lst ds =>
    have h : (if flat d && ds.all flat then some (D.bl (ds.any fun e => eqB e d)) else if shp d && shp (.lst ds) then some (D.bl (ds.any fun e => eqB e d)) else none) = some z := by
      cases d <;> exact h
    obtain ⟨a, vs, rfl, h2, h3⟩ := p2
    split at h
    · rename_i hf
      simp only [Bool.and_eq_true] at hf
      cases h
      have e := inV_in hf.1 r1 hf.2 h3
      refine ⟨_, rfl, fun Q q => .inl (.inl ⟨a, vs, rfl, .inl (SqL.of h2), flat_v (Hs := H) hf.1 r1, flats_v hf.2 h3, ?_⟩), fun Q q => .inl (.inl ⟨a, vs, rfl, .inl (SqL.of h2), flat_v (Hs := H) hf.1 r1, flats_v hf.2 h3, ?_⟩)⟩
      · rw [e]
        exact q
      · rw [e]
        exact q
    · split at h
      · rename_i hf
        simp only [Bool.and_eq_true] at hf
        cases h
        have hr : Rp K H (.lst ds) (.ref a) := by
          simp only [Rp]
          exact ⟨a, vs, rfl, h2, Rps.mono ex ds h3⟩
        have g1 := Rp.dp d r1 (SeqAt.canLay_of_shaped hf.1)
        have g2 : Dp K H (.ref a) (.list (toPys ds)) := by
          have := Rp.dp (.lst ds) hr (SeqAt.canLay_of_shaped hf.2)
          simpa only [toPy] using this
        have s2 : SeqAt.shaped (.list (toPys ds)) = true := by
          have := hf.2
          unfold shp at this
          simpa only [toPy] using this
        refine ⟨_, rfl, fun Q q => .inl (.inr ⟨toPy d, toPys ds, g1, g2, hf.1, s2, ?_⟩), fun Q q => .inl (.inr ⟨toPy d, toPys ds, g1, g2, hf.1, s2, ?_⟩)⟩
        · rw [any_toPys]
          exact q
        · rw [any_toPys]
          exact q
      · cases h
  | tup ds =>
    have h : (if flat d && ds.all flat then some (D.bl (ds.any fun e => eqB e d)) else none) = some z := by
      cases d <;> exact h
    obtain ⟨a, vs, rfl, h2, h3⟩ := p2
    split at h
    · rename_i hf
      simp only [Bool.and_eq_true] at hf
      cases h
      have e := inV_in hf.1 r1 hf.2 h3
      refine ⟨_, rfl, fun Q q => .inl (.inl ⟨a, vs, rfl, .inr h2, flat_v (Hs := H) hf.1 r1, flats_v hf.2 h3, ?_⟩), fun Q q => .inl (.inl ⟨a, vs, rfl, .inr h2, flat_v (Hs := H) hf.1 r1, flats_v hf.2 h3, ?_⟩)⟩
      · rw [e]
        exact q
      · rw [e]
        exact q
    · cases h
  | str zz =>
    cases d with
    | str x =>
      have p1 : v = .str (S x) := p1
      have p2 : w = .str (S zz) := p2
      subst p1 p2
      match x, h with
      | [c], h =>
        cases h
        exact ⟨_, rfl, fun Q q => .inr (.inl ⟨c, S zz, rfl, rfl, by rw [S_list]; exact q⟩), fun Q q => .inr (.inl ⟨c, S zz, rfl, rfl, by rw [S_list]; exact q⟩)⟩
    | _ => cases h
  | dic kvs =>
    have h : ((kyOf d).map fun k => D.bl (valD kvs k).isSome) = some z := by
      cases d <;> first | exact h | (cases h; done)
    obtain ⟨k, hk, h⟩ := Option.map_eq_some_iff.mp h
    cases h
    obtain ⟨a, ks, rfl, h2, h3⟩ := p2
    have ev := kyOf_v hk p1
    subst ev
    have hv := RpK.val (k := k) h3
    have e : (valV ks k.key).isSome = (valD kvs k).isSome := by
      cases q : valD kvs k with
      | none => rw [hv.2 q]; rfl
      | some d' =>
        obtain ⟨w, hw, _⟩ := hv.1 d' q
        rw [hw]
        rfl
    exact ⟨_, rfl, fun Q q => .inr (.inr ⟨a, valV ks k.key, rfl, DGet.k h2, by rw [e]; exact q⟩), fun Q q => .inr (.inr ⟨a, valV ks k.key, rfl, DGet.k h2, by rw [e]; exact q⟩)⟩
  | _ => cases d <;> cases h
theorem ov_in : OV2 K (rInX K) inD := by
  intro Hs H d e z v w ex p1 p2 h
  obtain ⟨b, rfl, h1, h2⟩ := in_core ex p1 p2 h
  exact ⟨.bl b, by simp only [Rp], h1⟩
theorem ov_notIn : OV2 K (rNotInX K) notInD := by
  intro Hs H d e z v w ex p1 p2 h
  obtain ⟨z', hz, h⟩ := Option.bind_eq_some_iff.mp h
  obtain ⟨b, rfl, h1, h2⟩ := in_core ex p1 p2 hz
  cases h
  exact ⟨.bl (!b), by simp only [Rp], h2⟩
def ixD : D → D → Option D
  | .lst ds, .int i => atI ds i
  | .tup ds, .int i => atI ds i
  | .str x, .int i => if x.length ≤ sizeLine then (atI x i).map fun c => .str [c] else none
  | _, _ => none
theorem Rps.atI {H : Hp} {ds : List D} {vs : List V} {i : Int} {d : D} (r : Rps K H ds vs) (h : L2.atI ds i = some d) : ∃ v, L2.atI vs i = some v ∧ Rp K H d v := by
  unfold L2.atI at h ⊢
  obtain ⟨j, hj, h⟩ := Option.bind_eq_some_iff.mp h
  obtain ⟨v, hv, rv⟩ := r.get h
  rw [r.length, hj]
  exact ⟨v, hv, rv⟩
theorem ov_ix : OV2 K (rIx K) ixD := by
  intro Hs H d e z v w ex p1 p2 h
  cases e <;> first | (cases d <;> cases h; done) | skip
  rename_i i
  have p2 : w = .int i := p2
  subst p2
  cases d <;> first | (cases h; done) | skip
  · rename_i x
    have p1 : v = .str (S x) := p1
    subst p1
    have h : (if x.length ≤ sizeLine then (atI x i).map fun c => D.str [c] else none) = some z := h
    split at h
    · rename_i hz
      obtain ⟨c, hc, h⟩ := Option.map_eq_some_iff.mp h
      cases h
      exact ⟨.str (S [c]), by simp only [Rp], fun Q q => .inr (.inr ⟨S x, i, c, rfl, rfl, by rw [S_len]; exact hz, by rw [S_list]; exact hc, q⟩)⟩
    · cases h
  · obtain ⟨a, vs, rfl, h2, h3⟩ := p1
    obtain ⟨u, hu, ru⟩ := h3.atI h
    exact ⟨u, ru, fun Q q => .inr (.inl ⟨a, vs, i, u, rfl, rfl, h2, hu, q⟩)⟩
  · obtain ⟨a, vs, rfl, h2, h3⟩ := p1
    obtain ⟨u, hu, ru⟩ := h3.atI h
    exact ⟨u, ru, fun Q q => .inl ⟨a, vs, i, u, rfl, rfl, SqL.of h2, hu, q⟩⟩
theorem de_ix {a b : Expr} {fa fb : FO} {pos : Pos} (ha : DO X a fa) (hb : DO X b fb) (hp : PlainIx b := by exact fun _ _ => rfl) : DE X (.Subscript a b pos) (eOp2 ixD fa fb) := de_ix2 ix_seq ov_ix ha hb hp
/-- d[k] -/
def getD' : D → D → Option D
  | .dic kvs, k => (kyOf k).bind fun k => valD kvs k
  | _, _ => none
theorem de_dget {a b : Expr} {fa fb : FO} {pos : Pos} (hu : X.A.units + 1 < cLine) (ha : DO X a fa) (hb : DO X b fb) (hp : NoSl b := by exact fun _ _ => rfl) : DE X (.Subscript a b pos) (eOp2 getD' fa fb) := by
  refine imp (pe_dget hu ha hb hp) fun σ H Q h => ?_
  obtain ⟨x, env, Hs, d, env', I, hf, k⟩ := h
  obtain ⟨⟨d1, d2, e2⟩, h1, h2⟩ := Option.bind_eq_some_iff.mp hf
  obtain ⟨z, h3, h4⟩ := Option.map_eq_some_iff.mp h2
  cases h4
  refine rd2 (R := fun v w H' => ∃ a u, v = .ref a ∧ DGet H' a w (some u) ∧ Q u H') I h1 fun v w H' Hs' I' s p1 p2 => ?_
  cases d1 <;> first | (cases h3; done) | skip
  rename_i kvs
  have h3 : (kyOf d2).bind (fun k => valD kvs k) = some d := h3
  obtain ⟨ky, hk, h3⟩ := Option.bind_eq_some_iff.mp h3
  obtain ⟨a, ks, rfl, g2, g3⟩ := p1
  have ev := kyOf_v hk p2
  subst ev
  obtain ⟨u, hu, ru⟩ := (RpK.val (k := ky) g3).1 d h3
  exact ⟨a, u, rfl, by rw [← hu]; exact DGet.k g2, k u H' Hs' I' s ru⟩
abbrev FP := En → Option (Option Int × En)
def pNo : FP := fun env => some (none, env)
def pAt (f : FE) : FP := fun env => (f env).bind fun p => match p.1 with
  | .int i => some (some i, p.2)
  | _ => none
def rdP (K : PySem.W.Frag) (f : FP) : TO := fun σ H Q => ∃ x env Hs o env', IV K x env σ Hs H ∧ f env = some (o, env') ∧ ∀ H' Hs', IV K x env' σ Hs' H' → Same Hs Hs' → Q o H'
abbrev DP (X : Cx) (e : Option Expr) (f : FP) : Prop := PO X e (rdP X.K f)
theorem dp_no : DP X none pNo := ⟨fun pins s σ H Q I h => po_none.run pins s σ H Q I (by
  obtain ⟨x, env, Hs, o, env', I, hf, k⟩ := h
  cases hf
  exact k H Hs I (Same.refl _))⟩
theorem dp_at {e : Expr} {f : FE} (h : DE X e f) : DP X (some e) (pAt f) := ⟨fun pins s σ H Q I hh => (po_some h).run pins s σ H Q I (by
  obtain ⟨x, env, Hs, o, env', I, hf, k⟩ := hh
  obtain ⟨⟨d, e2⟩, h1, h2⟩ := Option.bind_eq_some_iff.mp hf
  cases d <;> first | (cases h2; done) | skip
  rename_i i
  cases h2
  refine ⟨x, env, Hs, .int i, _, I, h1, fun v H' Hs' I' s r => ?_⟩
  simp only [Rp] at r
  exact ⟨i, r, k H' Hs' I' s⟩)⟩
def cut {α : Type} (xs : List α) (lo hi : Option Int) : List α := (xs.drop (HT.sIx xs.length 0 lo)).take (HT.sIx xs.length xs.length hi - HT.sIx xs.length 0 lo)
def ev3 (fa : FO) (fl fh : FP) (env : En) : Option (D × Option Int × Option Int × En) := (fa env).bind fun p => (fl p.2).bind fun q => (fh q.2).bind fun r => (fetch r.2 p.1).map fun d => (d, q.1, r.1, r.2)
def eSl (g : D → Option Int → Option Int → Option D) (fa : FO) (fl fh : FP) : FE := fun env => (ev3 fa fl fh env).bind fun p => (g p.1 p.2.1 p.2.2.1).map fun z => (z, p.2.2.2)
theorem rd3 {x : Fx} {env env' : En} {σ : L2.St} {Hs H : Hp} {fa : FO} {fl fh : FP} {d : D} {lo hi : Option Int} {R : V → Option Int → Option Int → Hp → Prop} (I : IV K x env σ Hs H) (h : ev3 fa fl fh env = some (d, lo, hi, env'))
    (k : ∀ v H' Hs', IV K x env' σ Hs' H' → Same Hs Hs' → Pk K Hs' H' d v → R v lo hi H') : rdO K fa σ H fun v H1 => rdP K fl σ H1 fun l H2 => rdP K fh σ H2 fun u H3 => R v l u H3 := by
  unfold ev3 at h
  obtain ⟨p, hp, h⟩ := Option.bind_eq_some_iff.mp h
  obtain ⟨q, hq, h⟩ := Option.bind_eq_some_iff.mp h
  obtain ⟨r, hr, h⟩ := Option.bind_eq_some_iff.mp h
  obtain ⟨d', hd, h⟩ := Option.map_eq_some_iff.mp h
  cases h
  exact ⟨x, env, Hs, p.1, p.2, I, hp, fun v H1 Hs1 I1 s1 o1 => ⟨x, p.2, Hs1, q.1, q.2, I1, hq, fun H2 Hs2 I2 s2 => ⟨x, q.2, Hs2, r.1, r.2, I2, hr, fun H3 Hs3 I3 s3 => k v H3 Hs3 I3 (s1.trans (s2.trans s3)) (I3.pk (o1.mono (s2.trans s3)) hd)⟩⟩⟩
def slS : D → Option Int → Option Int → Option D
  | .str x, lo, hi => if x.length ≤ sizeLine then some (.str (cut x lo hi)) else none
  | _, _, _ => none
def slL : D → Option Int → Option Int → Option D
  | .lst ds, lo, hi => some (.lst (cut ds lo hi))
  | .scr ns, lo, hi => some (.lst ((cut ns lo hi).map D.int))
  | _, _, _ => none
theorem de_slS {a : Expr} {lo hi : Option Expr} {fa : FO} {fl fh : FP} {pos p2 : Pos} (ha : DO X a fa) (hl : DP X lo fl) (hh : DP X hi fh) : DE X (.Subscript a (.Slice lo hi none p2) pos) (eSl slS fa fl fh) := by
  refine imp (pe_slice sl_str ha hl hh) fun σ H Q h => ?_
  obtain ⟨x, env, Hs, d, env', I, hf, k⟩ := h
  obtain ⟨⟨d1, l1, l2, e2⟩, h1, h2⟩ := Option.bind_eq_some_iff.mp hf
  obtain ⟨z, h3, h4⟩ := Option.map_eq_some_iff.mp h2
  cases h4
  refine rd3 (R := fun v l u H' => rSlS v l u H' Q) I h1 fun v H' Hs' I' s p1 => ?_
  cases d1 <;> first | (cases h3; done) | skip
  rename_i y
  have h3 : (if y.length ≤ sizeLine then some (D.str (cut y l1 l2)) else none) = some d := h3
  split at h3
  · rename_i hz
    cases h3
    have p1 : v = .str (S y) := p1
    subst p1
    refine ⟨S y, rfl, by rw [S_len]; exact hz, ?_⟩
    have e : cutS (S y) l1 l2 = S (cut y l1 l2) := by
      unfold cutS cut
      rw [S_len, S_list]
    rw [e]
    exact k _ H' Hs' I' s (by simp only [Rp])
  · cases h3
theorem Rps.cut {H : Hp} {ds : List D} {vs : List V} (r : Rps K H ds vs) (lo hi : Option Int) : Rps K H (Qd.cut ds lo hi) (cutV vs lo hi) := by
  unfold Qd.cut cutV
  rw [r.length]
  exact (r.drop _).take _
theorem df_slL {a : Expr} {lo hi : Option Expr} {fa : FO} {fl fh : FP} {pos p2 : Pos} (ha : DO X a fa) (hl : DP X lo fl) (hh : DP X hi fh) : DF X (.Subscript a (.Slice lo hi none p2) pos) (eSl slL fa fl fh) := by
  refine imp (pe_slice sl_list ha hl hh) fun σ H Q h => ?_
  obtain ⟨x, env, Hs, d, env', I, hf, k⟩ := h
  obtain ⟨⟨d1, l1, l2, e2⟩, h1, h2⟩ := Option.bind_eq_some_iff.mp hf
  obtain ⟨z, h3, h4⟩ := Option.map_eq_some_iff.mp h2
  cases h4
  refine rd3 (R := fun v l u H' => rSlL X.K v l u H' Q) I h1 fun v H' Hs' I' s p1 => ?_
  cases d1 <;> first | (cases h3; done) | skip
  · cases h3
    obtain ⟨a, vs, rfl, g2, g3⟩ := p1
    exact ⟨a, vs, rfl, SqL.of g2, fun p hp => k p _ Hs' (I'.new hp) s ⟨_, upd_same, g3.cut l1 l2⟩ (I'.hs_none hp) (I'.fm_none hp) (I'.apart hp)⟩
  · rename_i ns
    cases h3
    obtain ⟨a, rfl, g2⟩ := p1
    refine ⟨a, _, rfl, g2, fun p hp => k p _ Hs' (I'.new hp) s ⟨_, upd_same, ?_⟩ (I'.hs_none hp) (I'.fm_none hp) (I'.apart hp)⟩
    have e : cutV (ns.map V.int) l1 l2 = (Qd.cut ns l1 l2).map V.int := by
      unfold cutV Qd.cut
      rw [List.length_map, ← List.map_drop, ← List.map_take]
    rw [e]
    exact Rps.of_ints _
end
end Qd
namespace Qd
open PySem PySem.Spec L2
section
variable {X : Cx} {K : PySem.W.Frag}
theorem pks1 {Hs H : Hp} {d : D} {vs : List V} (h : Pks K Hs H [d] vs) : ∃ v, vs = [v] ∧ Pk K Hs H d v := by
  match vs, h with
  | [v], ⟨a, _⟩ => exact ⟨v, rfl, a⟩
theorem pks2 {Hs H : Hp} {d e : D} {vs : List V} (h : Pks K Hs H [d, e] vs) : ∃ v w, vs = [v, w] ∧ Pk K Hs H d v ∧ Pk K Hs H e w := by
  match vs, h with
  | [v, w], ⟨a, b, _⟩ => exact ⟨v, w, rfl, a, b⟩
def lenD : List D → Option D
  | [.str x] => if x.length ≤ sizeLine then some (.int x.length) else none
  | [.lst ds] => some (.int ds.length)
  | [.tup ds] => some (.int ds.length)
  | [.dic kvs] => some (.int kvs.length)
  | [.scr ns] => some (.int ns.length)
  | _ => none
def rLenX (K : PySem.W.Frag) : List V → Hp → VK → Prop := fun xs H Q => (∃ x n, xs = [x] ∧ LenV K x H n ∧ Q (.int n) H) ∨ ∃ a kvs, xs = [V.ref a] ∧ H a = some (.dK kvs) ∧ Q (.int kvs.length) H
theorem cr_lenX : CallR X (.builtin "len") (rLenX X.K) := CallR.or call_len call_lenD
theorem RpK.length {H : Hp} : ∀ {kvs : List (Ky × D)} {ks : List (Key × V)}, RpK K H kvs ks → ks.length = kvs.length
  | [], _, r => by
    simp only [RpK] at r
    subst r
    rfl
  | (k, d) :: kvs, _, r => by
    simp only [RpK] at r
    obtain ⟨w, r', rfl, h1, h2⟩ := r
    rw [List.length_cons, List.length_cons, RpK.length h2]
theorem cv_len : CV K (rLenX K) lenD := by
  intro Hs H ds z vs ex ps h
  match ds, h with
  | [.str x], h =>
    obtain ⟨v, rfl, p⟩ := pks1 ps
    have p : v = .str (S x) := p
    subst p
    have h : (if x.length ≤ sizeLine then some (D.int x.length) else none) = some z := h
    split at h
    · rename_i hz
      cases h
      exact ⟨.int x.length, by simp only [Rp], fun Q q => .inl ⟨_, x.length, rfl, ⟨by rw [S_len]; exact hz, (S_len x).symm⟩, q⟩⟩
    · cases h
  | [.lst ds], h =>
    obtain ⟨v, rfl, p⟩ := pks1 ps
    obtain ⟨a, vs, rfl, h2, h3⟩ := p
    cases h
    exact ⟨.int ds.length, by simp only [Rp], fun Q q => .inl ⟨_, ds.length, rfl, .inl ⟨vs, SqL.of h2, h3.length.symm⟩, q⟩⟩
  | [.tup ds], h =>
    obtain ⟨v, rfl, p⟩ := pks1 ps
    obtain ⟨a, vs, rfl, h2, h3⟩ := p
    cases h
    exact ⟨.int ds.length, by simp only [Rp], fun Q q => .inl ⟨_, ds.length, rfl, .inr ⟨vs, h2, h3.length.symm⟩, q⟩⟩
  | [.dic kvs], h =>
    obtain ⟨v, rfl, p⟩ := pks1 ps
    obtain ⟨a, ks, rfl, h2, h3⟩ := p
    cases h
    exact ⟨.int kvs.length, by simp only [Rp], fun Q q => .inr ⟨a, ks, rfl, h2, by rw [h3.length]; exact q⟩⟩
  | [.scr ns], h =>
    obtain ⟨v, rfl, p⟩ := pks1 ps
    obtain ⟨a, rfl, h2⟩ := p
    cases h
    exact ⟨.int ns.length, by simp only [Rp], fun Q q => .inl ⟨_, ns.length, rfl, .inl ⟨_, h2, by rw [List.length_map]⟩, q⟩⟩
def bls : List D → Option (List Bool)
  | [] => some []
  | .bl b :: ds => (bls ds).map fun bs => b :: bs
  | _ => none
theorem bls_eq : ∀ {ds : List D} {bs : List Bool}, bls ds = some bs → ds = bs.map D.bl
  | [], _, h => by cases h; rfl
  | .bl b :: ds, _, h => by
    obtain ⟨bs, h1, h2⟩ := Option.map_eq_some_iff.mp (show (bls ds).map (fun bs => b :: bs) = some _ from h)
    cases h2
    rw [bls_eq h1]
    rfl
theorem bls_map : ∀ (bs : List Bool), bls (bs.map D.bl) = some bs
  | [] => rfl
  | b :: bs => by
    show (bls (bs.map D.bl)).map (fun r => b :: r) = _
    rw [bls_map bs]
    rfl
def intsD : List D → Option (List Int)
  | [] => some []
  | .int b :: ds => (intsD ds).map fun bs => b :: bs
  | _ => none
theorem intsD_eq : ∀ {ds : List D} {bs : List Int}, intsD ds = some bs → ds = bs.map D.int
  | [], _, h => by cases h; rfl
  | .int b :: ds, _, h => by
    obtain ⟨bs, h1, h2⟩ := Option.map_eq_some_iff.mp (show (intsD ds).map (fun bs => b :: bs) = some _ from h)
    cases h2
    rw [intsD_eq h1]
    rfl
theorem intsD_map : ∀ (bs : List Int), intsD (bs.map D.int) = some bs
  | [] => rfl
  | b :: bs => by
    show (intsD (bs.map D.int)).map (fun r => b :: r) = _
    rw [intsD_map bs]
    rfl
def strsD : List D → Option (List (List Nat))
  | [] => some []
  | .str b :: ds => (strsD ds).map fun bs => b :: bs
  | _ => none
theorem strsD_eq : ∀ {ds : List D} {bs : List (List Nat)}, strsD ds = some bs → ds = bs.map D.str
  | [], _, h => by cases h; rfl
  | .str b :: ds, _, h => by
    obtain ⟨bs, h1, h2⟩ := Option.map_eq_some_iff.mp (show (strsD ds).map (fun bs => b :: bs) = some _ from h)
    cases h2
    rw [strsD_eq h1]
    rfl
theorem strsD_map : ∀ (bs : List (List Nat)), strsD (bs.map D.str) = some bs
  | [] => rfl
  | b :: bs => by
    show (strsD (bs.map D.str)).map (fun r => b :: r) = _
    rw [strsD_map bs]
    rfl
def allB : List D → Option D
  | [.lst ds] => (bls ds).map fun bs => .bl (bs.all id)
  | _ => none
def anyB : List D → Option D
  | [.lst ds] => (bls ds).map fun bs => .bl (bs.any id)
  | _ => none
def sumD : List D → Option D
  | [.lst ds] => (intsD ds).map fun bs => .int bs.sum
  | _ => none
def maxL : Int → List Int → Int
  | m, [] => m
  | m, x :: r => maxL (if x > m then x else m) r
def minL : Int → List Int → Int
  | m, [] => m
  | m, x :: r => minL (if x < m then x else m) r
theorem maxL_spec : ∀ (m : Int) (r : List Int), (maxL m r = m ∨ maxL m r ∈ r) ∧ m ≤ maxL m r ∧ ∀ y ∈ r, y ≤ maxL m r
  | m, [] => ⟨.inl rfl, Int.le_refl _, fun y h => by cases h⟩
  | m, x :: r => by
    have ih := maxL_spec (if x > m then x else m) r
    simp only [maxL]
    have hq : ∃ q, q = (if x > m then x else m) ∧ (q = x ∨ q = m) ∧ m ≤ q ∧ x ≤ q := by
      by_cases hx : x > m
      · rw [if_pos hx]
        exact ⟨x, rfl, .inl rfl, by omega, by omega⟩
      · rw [if_neg hx]
        exact ⟨m, rfl, .inr rfl, by omega, by omega⟩
    obtain ⟨q, hq1, hq2, hq3, hq4⟩ := hq
    rw [← hq1] at ih ⊢
    obtain ⟨h1, h2, h3⟩ := ih
    refine ⟨?_, by omega, ?_⟩
    · rcases h1 with h1 | h1
      · rw [h1]
        rcases hq2 with e | e
        · rw [e]
          exact .inr List.mem_cons_self
        · exact .inl e
      · exact .inr (List.mem_cons_of_mem _ h1)
    · intro y hy
      rcases List.mem_cons.mp hy with rfl | hy
      · omega
      · exact h3 y hy
theorem minL_spec : ∀ (m : Int) (r : List Int), (minL m r = m ∨ minL m r ∈ r) ∧ minL m r ≤ m ∧ ∀ y ∈ r, minL m r ≤ y
  | m, [] => ⟨.inl rfl, Int.le_refl _, fun y h => by cases h⟩
  | m, x :: r => by
    have ih := minL_spec (if x < m then x else m) r
    simp only [minL]
    have hq : ∃ q, q = (if x < m then x else m) ∧ (q = x ∨ q = m) ∧ q ≤ m ∧ q ≤ x := by
      by_cases hx : x < m
      · rw [if_pos hx]
        exact ⟨x, rfl, .inl rfl, by omega, by omega⟩
      · rw [if_neg hx]
        exact ⟨m, rfl, .inr rfl, by omega, by omega⟩
    obtain ⟨q, hq1, hq2, hq3, hq4⟩ := hq
    rw [← hq1] at ih ⊢
    obtain ⟨h1, h2, h3⟩ := ih
    refine ⟨?_, by omega, ?_⟩
    · rcases h1 with h1 | h1
      · rw [h1]
        rcases hq2 with e | e
        · rw [e]
          exact .inr List.mem_cons_self
        · exact .inl e
      · exact .inr (List.mem_cons_of_mem _ h1)
    · intro y hy
      rcases List.mem_cons.mp hy with rfl | hy
      · omega
      · exact h3 y hy
def maxD1 : List D → Option D
  | [.lst (.int m :: ds)] => (intsD ds).map fun bs => .int (maxL m bs)
  | _ => none
def minD1 : List D → Option D
  | [.lst (.int m :: ds)] => (intsD ds).map fun bs => .int (minL m bs)
  | _ => none
def maxD2 : List D → Option D
  | [.int i, .int j] => some (.int (if j > i then j else i))
  | _ => none
def minD2 : List D → Option D
  | [.int i, .int j] => some (.int (if j < i then j else i))
  | _ => none
def absD : List D → Option D
  | [.int i] => some (.int (if i < 0 then -i else i))
  | _ => none
theorem cv_all : CV K (rAll K) allB := by
  intro Hs H ds z vs ex ps h
  match ds, h with
  | [.lst ds], h =>
    obtain ⟨v, rfl, p⟩ := pks1 ps
    obtain ⟨a, vs, rfl, h2, h3⟩ := p
    obtain ⟨bs, hb, h⟩ := Option.map_eq_some_iff.mp (show (bls ds).map (fun bs => D.bl (bs.all id)) = some z from h)
    cases h
    rw [bls_eq hb] at h3
    have e := h3.bls
    subst e
    exact ⟨.bl (bs.all id), by simp only [Rp], fun Q q => ⟨a, bs, rfl, SqL.of h2, q⟩⟩
theorem cv_any : CV K (rAny K) anyB := by
  intro Hs H ds z vs ex ps h
  match ds, h with
  | [.lst ds], h =>
    obtain ⟨v, rfl, p⟩ := pks1 ps
    obtain ⟨a, vs, rfl, h2, h3⟩ := p
    obtain ⟨bs, hb, h⟩ := Option.map_eq_some_iff.mp (show (bls ds).map (fun bs => D.bl (bs.any id)) = some z from h)
    cases h
    rw [bls_eq hb] at h3
    have e := h3.bls
    subst e
    exact ⟨.bl (bs.any id), by simp only [Rp], fun Q q => ⟨a, bs, rfl, SqL.of h2, q⟩⟩
theorem cv_sum : CV K (rSum K) sumD := by
  intro Hs H ds z vs ex ps h
  match ds, h with
  | [.lst ds], h =>
    obtain ⟨v, rfl, p⟩ := pks1 ps
    obtain ⟨a, vs, rfl, h2, h3⟩ := p
    obtain ⟨bs, hb, h⟩ := Option.map_eq_some_iff.mp (show (intsD ds).map (fun bs => D.int bs.sum) = some z from h)
    cases h
    rw [intsD_eq hb] at h3
    have e := h3.ints
    subst e
    exact ⟨.int bs.sum, by simp only [Rp], fun Q q => ⟨a, bs, rfl, SqL.of h2, q⟩⟩
theorem cv_max1 : CV K (rMax K) maxD1 := by
  intro Hs H ds z vs ex ps h
  match ds, h with
  | [.lst (.int m :: ds)], h =>
    obtain ⟨v, rfl, p⟩ := pks1 ps
    obtain ⟨a, vs, rfl, h2, h3⟩ := p
    obtain ⟨bs, hb, h⟩ := Option.map_eq_some_iff.mp (show (intsD ds).map (fun bs => D.int (maxL m bs)) = some z from h)
    cases h
    have e0 : D.int m :: ds = (m :: bs).map D.int := by rw [intsD_eq hb]; rfl
    rw [e0] at h3
    have e := h3.ints
    subst e
    refine ⟨.int (maxL m bs), by simp only [Rp], fun Q q => ⟨a, m :: bs, rfl, SqL.of h2, by simp, fun y hy hm => ?_⟩⟩
    obtain ⟨s1, s2, s3⟩ := maxL_spec m bs
    have hmem : maxL m bs ∈ m :: bs := by
      rcases s1 with s1 | s1
      · rw [s1]; exact List.mem_cons_self
      · exact List.mem_cons_of_mem _ s1
    have e1 : y = maxL m bs := by
      have h1 := hm _ hmem
      rcases List.mem_cons.mp hy with rfl | hy
      · omega
      · have := s3 y hy
        omega
    rw [e1]
    exact q
theorem cv_min1 : CV K (rMin K) minD1 := by
  intro Hs H ds z vs ex ps h
  match ds, h with
  | [.lst (.int m :: ds)], h =>
    obtain ⟨v, rfl, p⟩ := pks1 ps
    obtain ⟨a, vs, rfl, h2, h3⟩ := p
    obtain ⟨bs, hb, h⟩ := Option.map_eq_some_iff.mp (show (intsD ds).map (fun bs => D.int (minL m bs)) = some z from h)
    cases h
    have e0 : D.int m :: ds = (m :: bs).map D.int := by rw [intsD_eq hb]; rfl
    rw [e0] at h3
    have e := h3.ints
    subst e
    refine ⟨.int (minL m bs), by simp only [Rp], fun Q q => ⟨a, m :: bs, rfl, SqL.of h2, by simp, fun y hy hm => ?_⟩⟩
    obtain ⟨s1, s2, s3⟩ := minL_spec m bs
    have hmem : minL m bs ∈ m :: bs := by
      rcases s1 with s1 | s1
      · rw [s1]; exact List.mem_cons_self
      · exact List.mem_cons_of_mem _ s1
    have e1 : y = minL m bs := by
      have h1 := hm _ hmem
      rcases List.mem_cons.mp hy with rfl | hy
      · omega
      · have := s3 y hy
        omega
    rw [e1]
    exact q
def rMax2 : List V → Hp → VK → Prop := fun xs H Q => ∃ i j, xs = [.int i, .int j] ∧ Q (.int (if j > i then j else i)) H
def rMin2 : List V → Hp → VK → Prop := fun xs H Q => ∃ i j, xs = [.int i, .int j] ∧ Q (.int (if j < i then j else i)) H
def rAbs : List V → Hp → VK → Prop := fun xs H Q => ∃ i, xs = [.int i] ∧ Q (.int (if i < 0 then -i else i)) H
theorem cv_max2 : CV K rMax2 maxD2 := by
  intro Hs H ds z vs ex ps h
  match ds, h with
  | [.int i, .int j], h =>
    obtain ⟨v, w, rfl, p, q⟩ := pks2 ps
    have p : v = .int i := p
    have q : w = .int j := q
    subst p q
    cases h
    exact ⟨.int (if j > i then j else i), by simp only [Rp], fun Q q => ⟨i, j, rfl, q⟩⟩
theorem cv_min2 : CV K rMin2 minD2 := by
  intro Hs H ds z vs ex ps h
  match ds, h with
  | [.int i, .int j], h =>
    obtain ⟨v, w, rfl, p, q⟩ := pks2 ps
    have p : v = .int i := p
    have q : w = .int j := q
    subst p q
    cases h
    exact ⟨.int (if j < i then j else i), by simp only [Rp], fun Q q => ⟨i, j, rfl, q⟩⟩
theorem cv_abs : CV K rAbs absD := by
  intro Hs H ds z vs ex ps h
  match ds, h with
  | [.int i], h =>
    obtain ⟨v, rfl, p⟩ := pks1 ps
    have p : v = .int i := p
    subst p
    cases h
    exact ⟨.int (if i < 0 then -i else i), by simp only [Rp], fun Q q => ⟨i, rfl, q⟩⟩
def listD : List D → Option D
  | [.lst ds] => some (.lst ds)
  | [.tup ds] => some (.lst ds)
  | [.scr ns] => some (.lst (ns.map D.int))
  | [.dic kvs] => some (.lst (kvs.map fun kv => match kv.1 with | .i n => .int n | .s x => .str x))
  | _ => none
def rListX (K : PySem.W.Frag) : List V → Hp → VK → Prop := fun xs H Q => (∃ p ys, xs = [.ref p] ∧ (SqL K H p ys ∨ SqT K H p ys) ∧ ∀ l, H l = none → Q (.ref l) (upd H l (.lst ys))) ∨ ∃ p kvs, xs = [.ref p] ∧ H p = some (.dK kvs) ∧ ∀ q, H q = none → Q (.ref q) (upd H q (.lst (kvs.map fun kv => kV kv.1)))
theorem cr_listX (hc : X.calm = true) : CallR X (.type "list") (rListX X.K) := CallR.or call_list_of (call_list_dK hc)
theorem RpK.keys {H : Hp} : ∀ {kvs : List (Ky × D)} {ks : List (Key × V)}, RpK K H kvs ks → Rps K H (kvs.map fun kv => match kv.1 with | .i n => .int n | .s x => .str x) (ks.map fun kv => kV kv.1)
  | [], _, r => by
    simp only [RpK] at r
    subst r
    simp only [List.map_nil, Rps]
  | (k, d) :: kvs, _, r => by
    simp only [RpK] at r
    obtain ⟨w, r', rfl, h1, h2⟩ := r
    simp only [List.map_cons, Rps]
    refine ⟨_, _, rfl, ?_, RpK.keys h2⟩
    cases k with
    | i n => simp only [Rp]; rfl
    | s x => simp only [Rp]; rfl
theorem cf_list : CFr K (rListX K) listD := by
  intro Hs H ds z vs ex ps h
  match ds, h with
  | [.lst ds], h =>
    obtain ⟨v, rfl, p⟩ := pks1 ps
    obtain ⟨a, vs, rfl, h2, h3⟩ := p
    cases h
    exact ⟨.lst vs, fun p => ⟨vs, upd_same, h3⟩, fun Q q => .inl ⟨a, vs, rfl, .inl (SqL.of h2), q⟩⟩
  | [.tup ds], h =>
    obtain ⟨v, rfl, p⟩ := pks1 ps
    obtain ⟨a, vs, rfl, h2, h3⟩ := p
    cases h
    exact ⟨.lst vs, fun p => ⟨vs, upd_same, h3⟩, fun Q q => .inl ⟨a, vs, rfl, .inr h2, q⟩⟩
  | [.scr ns], h =>
    obtain ⟨v, rfl, p⟩ := pks1 ps
    obtain ⟨a, rfl, h2⟩ := p
    cases h
    exact ⟨.lst (ns.map V.int), fun p => ⟨_, upd_same, Rps.of_ints ns⟩, fun Q q => .inl ⟨a, _, rfl, .inl h2, q⟩⟩
  | [.dic kvs], h =>
    obtain ⟨v, rfl, p⟩ := pks1 ps
    obtain ⟨a, ks, rfl, h2, h3⟩ := p
    cases h
    exact ⟨.lst (ks.map fun kv => kV kv.1), fun p => ⟨_, upd_same, h3.keys⟩, fun Q q => .inr ⟨a, ks, rfl, h2, q⟩⟩
/-- texts in order -/
def insS (x : List Nat) : List (List Nat) → List (List Nat)
  | [] => [x]
  | y :: r => if y < x then y :: insS x r else x :: y :: r
def sortS : List (List Nat) → List (List Nat)
  | [] => []
  | x :: r => insS x (sortS r)
def sortD : List D → Option D
  | [.lst ds] => (strsD ds).bind fun xs => if xs.length < 64 then some (.lst ((sortS xs).map D.str)) else none
  | _ => none
end
end Qd
namespace Qd
open PySem PySem.Spec L2
theorem insS_perm (x : List Nat) : ∀ l : List (List Nat), (insS x l).Perm (x :: l)
  | [] => List.Perm.refl _
  | y :: r => by
    unfold insS
    split
    · exact ((insS_perm x r).cons y).trans (List.Perm.swap x y r)
    · exact List.Perm.refl _
theorem sortS_perm : ∀ l : List (List Nat), (sortS l).Perm l
  | [] => List.Perm.refl _
  | x :: r => (insS_perm x (sortS r)).trans ((sortS_perm r).cons x)
theorem insS_sorted (x : List Nat) : ∀ l : List (List Nat), l.Pairwise (· ≤ ·) → (insS x l).Pairwise (· ≤ ·)
  | [], _ => by simp [insS]
  | y :: r, h => by
    obtain ⟨h1, h2⟩ := List.pairwise_cons.mp h
    unfold insS
    split
    · rename_i hlt
      refine List.pairwise_cons.mpr ⟨fun z hz => ?_, insS_sorted x r h2⟩
      rcases List.mem_cons.mp ((insS_perm x r).mem_iff.mp hz) with e | e
      · rw [e]
        exact List.le_of_lt hlt
      · exact h1 z e
    · rename_i hlt
      refine List.pairwise_cons.mpr ⟨fun z hz => ?_, h⟩
      have hxy : x ≤ y := List.not_lt.mp hlt
      rcases List.mem_cons.mp hz with e | e
      · rw [e]
        exact hxy
      · exact List.le_trans hxy (h1 z e)
theorem sortS_sorted : ∀ l : List (List Nat), (sortS l).Pairwise (· ≤ ·)
  | [] => List.Pairwise.nil
  | x :: r => insS_sorted x _ (sortS_sorted r)
theorem sortS_uniq {l m : List (List Nat)} (p : m.Perm l) (h : m.Pairwise (· ≤ ·)) : m = sortS l :=
  List.Perm.eq_of_pairwise (fun _ _ _ _ h1 h2 => List.le_antisymm h1 h2) h (sortS_sorted l) (p.trans (sortS_perm l).symm)
theorem sortS_length (l : List (List Nat)) : (sortS l).length = l.length := (sortS_perm l).length_eq
theorem rising_pw : ∀ (ys : List Str) (x : Str), PyProof.Rows.risingS x ys = true → (∀ y ∈ ys, x.cps.toList ≤ y.cps.toList) ∧ (ys.map fun y => y.cps.toList).Pairwise (· ≤ ·)
  | [], _, _ => ⟨(fun y h => nomatch h), List.Pairwise.nil⟩
  | y :: r, x, h => by
    simp only [PyProof.Rows.risingS, Bool.and_eq_true, Bool.not_eq_true', PyProof.Rows.ltCps_eq, decide_eq_false_iff_not] at h
    obtain ⟨h1, h2⟩ := rising_pw r y h.2
    have hxy : x.cps.toList ≤ y.cps.toList := List.not_lt.mp h.1
    refine ⟨fun z hz => ?_, ?_⟩
    · rcases List.mem_cons.mp hz with e | e
      · rw [e]
        exact hxy
      · exact List.le_trans hxy (h1 z e)
    · simp only [List.map_cons]
      refine List.pairwise_cons.mpr ⟨fun z hz => ?_, h2⟩
      obtain ⟨u, hu, rfl⟩ := List.mem_map.mp hz
      exact h1 u hu
theorem sortedS_pw {ys : List Str} (h : PyProof.Rows.sortedS ys = true) : (ys.map fun y => y.cps.toList).Pairwise (· ≤ ·) := by
  cases ys with
  | nil => exact List.Pairwise.nil
  | cons y r =>
    obtain ⟨h1, h2⟩ := rising_pw r y h
    simp only [List.map_cons]
    refine List.pairwise_cons.mpr ⟨fun z hz => ?_, h2⟩
    obtain ⟨u, hu, rfl⟩ := List.mem_map.mp hz
    exact h1 u hu
section
variable {X : Cx} {K : PySem.W.Frag}
theorem S_back (y : Str) : S y.cps.toList = y := by
  cases y with | mk c =>
  show (⟨c.toList.toArray⟩ : Str) = ⟨c⟩
  simp
theorem cf_sort : CFr K (rSortedS K) sortD := by
  intro Hs H ds z vs ex ps h
  match ds, h with
  | [.lst ds], h =>
    obtain ⟨v, rfl, p⟩ := pks1 ps
    obtain ⟨a, vs, rfl, h2, h3⟩ := p
    obtain ⟨xs, hb, h⟩ := Option.bind_eq_some_iff.mp (show (strsD ds).bind (fun xs => if xs.length < 64 then some (D.lst ((sortS xs).map D.str)) else none) = some z from h)
    split at h
    · rename_i hz
      cases h
      rw [strsD_eq hb] at h3
      have e := h3.strs
      subst e
      refine ⟨.lst (((sortS xs).map S).map V.str), fun p => ⟨_, upd_same, Rps.of_strs _⟩, fun Q q => ⟨a, xs.map S, rfl, SqL.of h2, by rw [List.length_map]; exact hz, fun ys p py sy hp => ?_⟩⟩
      have e1 : ys.map (fun y => y.cps.toList) = sortS xs := by
        refine sortS_uniq ?_ (sortedS_pw sy)
        have := py.map (fun y : Str => y.cps.toList)
        rw [List.map_map] at this
        have e2 : ((fun y : Str => y.cps.toList) ∘ S) = id := by
          funext y
          exact S_list y
        rw [e2, List.map_id] at this
        exact this
      have e3 : ys = (sortS xs).map S := by
        rw [← e1, List.map_map]
        have e4 : (S ∘ fun y : Str => y.cps.toList) = id := by
          funext y
          exact S_back y
        rw [e4, List.map_id]
      rw [e3]
      exact q p hp
    · cases h
def catD : D → D → Option D
  | .lst xs, .lst ys => if xs.length + ys.length ≤ sizeLine then some (.lst (xs ++ ys)) else none
  | _, _ => none
theorem of_cat : OF2 K rCat catD := by
  intro Hs H d e z v w ex p1 p2 h
  cases d <;> cases e <;> try (cases h; done)
  rename_i xs ys
  have h : (if xs.length + ys.length ≤ sizeLine then some (D.lst (xs ++ ys)) else none) = some z := h
  split at h
  · rename_i hz
    cases h
    obtain ⟨a, vs, rfl, h2, h3⟩ := p1
    obtain ⟨b, ws, rfl, g2, g3⟩ := p2
    exact ⟨.lst (vs ++ ws), fun p => ⟨_, upd_same, h3.append g3⟩, fun Q q => ⟨a, b, vs, ws, rfl, rfl, h2, g2, by rw [h3.length, g3.length]; exact hz, q⟩⟩
  · cases h
def eM (ty : D → Bool) (g : D → List D → Option D) (fo : FO) (fa : FA) : FE := fun env => (fo env).bind fun p => (fetch p.2 p.1).bind fun d0 => if ty d0 then (fa p.2).bind fun q => (fetch q.2 p.1).bind fun d => (fetchs q.2 q.1).bind fun ds => (g d ds).map fun z => (z, q.2) else none
def TyOk (K : PySem.W.Frag) (T : String) (ty : D → Bool) : Prop := ∀ (Hs H : Hp) (d : D) (x : V), ty d = true → Pk K Hs H d x → tyV K T x H
def MV (K : PySem.W.Frag) (r : V → List V → Hp → VK → Prop) (g : D → List D → Option D) : Prop := ∀ (Hs H : Hp) (d : D) (ds : List D) (z : D) (x : V) (xs : List V), Same Hs H → Pk K Hs H d x → Pks K Hs H ds xs → g d ds = some z → ∃ u, Rp K Hs z u ∧ ∀ Q : VK, Q u H → r x xs H Q
def MF (K : PySem.W.Frag) (r : V → List V → Hp → VK → Prop) (g : D → List D → Option D) : Prop := ∀ (Hs H : Hp) (d : D) (ds : List D) (z : D) (x : V) (xs : List V), Same Hs H → Pk K Hs H d x → Pks K Hs H ds xs → g d ds = some z → ∃ o, (∀ p, Own K Hs (upd H p o) p z) ∧ ∀ Q : VK, (∀ p, H p = none → Q (.ref p) (upd H p o)) → r x xs H Q
def isStr : D → Bool
  | .str _ => true
  | _ => false
def isLst : D → Bool
  | .lst _ => true
  | _ => false
theorem ty_str : TyOk K "str" isStr := by
  intro Hs H d x h p
  cases d <;> try (cases h; done)
  rename_i y
  have p : x = .str (S y) := p
  subst p
  rfl
theorem ty_lst : TyOk K "list" isLst := by
  intro Hs H d x h p
  cases d <;> try (cases h; done)
  obtain ⟨a, vs, rfl, h2, _⟩ := p
  exact .inl ⟨rfl, vs, SqL.of h2⟩
theorem mRun {T : String} {ty : D → Bool} {g : D → List D → Option D} {fo : FO} {fa : FA} {x : Fx} {env env' : En} {σ : L2.St} {Hs H : Hp} {z : D} {R : V → List V → Hp → Prop} (ht : TyOk K T ty) (I : IV K x env σ Hs H) (hf : eM ty g fo fa env = some (z, env'))
    (k : ∀ d ds v vs H' Hs', IV K x env' σ Hs' H' → Same Hs Hs' → Pk K Hs' H' d v → Pks K Hs' H' ds vs → g d ds = some z → R v vs H') : rdO K fo σ H fun v H1 => tyV K T v H1 ∧ rdA K fa σ H1 fun vs H2 => R v vs H2 := by
  unfold eM at hf
  obtain ⟨⟨o, e1⟩, h1, hf⟩ := Option.bind_eq_some_iff.mp hf
  obtain ⟨d0, h2, hf⟩ := Option.bind_eq_some_iff.mp hf
  split at hf
  · rename_i hty
    obtain ⟨⟨os, e2⟩, h3, hf⟩ := Option.bind_eq_some_iff.mp hf
    obtain ⟨d, h4, hf⟩ := Option.bind_eq_some_iff.mp hf
    obtain ⟨ds, h5, hf⟩ := Option.bind_eq_some_iff.mp hf
    obtain ⟨z', h6, hf⟩ := Option.map_eq_some_iff.mp hf
    cases hf
    exact ⟨x, env, Hs, o, e1, I, h1, fun v H1 Hs1 I1 s1 o1 => ⟨ht Hs1 H1 d0 v hty (I1.pk o1 h2), x, e1, Hs1, os, _, I1, h3, fun vs H2 Hs2 I2 s2 o2 => k d ds v vs H2 Hs2 I2 (s1.trans s2) (I2.pk (o1.mono s2) h4) (I2.pks o2 h5) h6⟩⟩
  · cases hf
theorem de_m {T id : String} {name : Str} {ty : D → Bool} {r : V → List V → Hp → VK → Prop} {g : D → List D → Option D} {o e : Expr} {es : List Expr} {fo : FO} {fa : FA} {apos cpos : Pos} (pa : PlainAttrs T) (slot : Slot T name id) (hty : typeOf (.builtin id) = pure (.type "method_descriptor"))
    (hm : MtR X id r) (ht : TyOk X.K T ty) (hv : MV X.K r g) (ho : DO X o fo) (ha : DA X (e :: es) fa) (hbase : attributeBase o name X.env (eval o X.env) = eval o X.env := by rfl)
    (hfew : ((backTo cpos (starEach (e :: es) X.env)).all (fun x => !x.1) && (backToKw cpos (keywordEach [] X.env)).all (fun x => x.1.isSome)
      && decide ((e :: es).length + ([] : List Keyword).length + (if ([] : List Keyword).isEmpty then 0 else 1) < 30)) = true := by rfl)
    (hline : (apos.endLine == cpos.line) = true := by rfl) (hs : starEach (e :: es) X.env = (false, eval e X.env) :: starEach es X.env := by rfl) (hplain : (backTo cpos (starEach es X.env)).any (·.1) = false := by rfl) :
    DE X (.Call (.Attribute o name apos) (e :: es) [] cpos) (eM ty g fo fa) := by
  refine imp (pe_bm pa slot hty hm ho ha hbase hfew hline hs hplain) fun σ H Q h => ?_
  obtain ⟨x, env, Hs, d, env', I, hf, k⟩ := h
  refine mRun (R := fun v vs H' => r v vs H' Q) ht I hf fun d ds v vs H' Hs' I' s p ps hg => ?_
  obtain ⟨u, hu, hr⟩ := hv Hs' H' d ds _ v vs I'.ex p ps hg
  exact hr Q (k u H' Hs' I' s hu)
theorem df_m {T id : String} {name : Str} {ty : D → Bool} {r : V → List V → Hp → VK → Prop} {g : D → List D → Option D} {o e : Expr} {es : List Expr} {fo : FO} {fa : FA} {apos cpos : Pos} (pa : PlainAttrs T) (slot : Slot T name id) (hty : typeOf (.builtin id) = pure (.type "method_descriptor"))
    (hm : MtR X id r) (ht : TyOk X.K T ty) (hv : MF X.K r g) (ho : DO X o fo) (ha : DA X (e :: es) fa) (hbase : attributeBase o name X.env (eval o X.env) = eval o X.env := by rfl)
    (hfew : ((backTo cpos (starEach (e :: es) X.env)).all (fun x => !x.1) && (backToKw cpos (keywordEach [] X.env)).all (fun x => x.1.isSome)
      && decide ((e :: es).length + ([] : List Keyword).length + (if ([] : List Keyword).isEmpty then 0 else 1) < 30)) = true := by rfl)
    (hline : (apos.endLine == cpos.line) = true := by rfl) (hs : starEach (e :: es) X.env = (false, eval e X.env) :: starEach es X.env := by rfl) (hplain : (backTo cpos (starEach es X.env)).any (·.1) = false := by rfl) :
    DF X (.Call (.Attribute o name apos) (e :: es) [] cpos) (eM ty g fo fa) := by
  refine imp (pe_bm pa slot hty hm ho ha hbase hfew hline hs hplain) fun σ H Q h => ?_
  obtain ⟨x, env, Hs, d, env', I, hf, k⟩ := h
  refine mRun (R := fun v vs H' => r v vs H' Q) ht I hf fun d ds v vs H' Hs' I' s p ps hg => ?_
  obtain ⟨ob, hu, hr⟩ := hv Hs' H' d ds _ v vs I'.ex p ps hg
  exact hr Q fun p hp => k p _ Hs' (I'.new hp) s (hu p) (I'.hs_none hp) (I'.fm_none hp) (I'.apart hp)
def pre (a b : List Nat) : Bool := b.isPrefixOf a
theorem starts_pre (a b : List Nat) : Txt.startswith (S a) (S b) = b.isPrefixOf a := by
  unfold Txt.startswith Builtin.Str.subAt
  rw [S_len, S_len, Nat.zero_add]
  by_cases h : b <+: a
  · obtain ⟨t, rfl⟩ := h
    rw [List.isPrefixOf_iff_prefix.mpr ⟨t, rfl⟩]
    simp
  · have e : b.isPrefixOf a = false := by
      cases q : b.isPrefixOf a with
      | false => rfl
      | true => exact absurd (List.isPrefixOf_iff_prefix.mp q) h
    rw [e]
    rw [Bool.and_eq_false_iff]
    by_cases hl : b.length ≤ a.length
    · right
      rw [beq_eq_false_iff_ne]
      intro z
      apply h
      have z2 : (a.toArray.extract 0 b.length).toList = b := by
        have : (S a).cps.extract 0 b.length = b.toArray := z
        rw [show (S a).cps = a.toArray from rfl] at this
        rw [this]
      rw [show (a.toArray.extract 0 b.length).toList = a.take b.length by simp] at z2
      refine ⟨a.drop b.length, ?_⟩
      conv => lhs; arg 1; rw [← z2]
      exact List.take_append_drop _ _
    · left
      simpa using hl
def startsD : D → List D → Option D
  | .str a, [.str b] => some (.bl (b.isPrefixOf a))
  | _, _ => none
def rStarts : V → List V → Hp → VK → Prop := fun x xs H Q => ∃ a b, x = .str a ∧ xs = [.str b] ∧ Q (.bl (Txt.startswith a b)) H
theorem mv_starts : MV K rStarts startsD := by
  intro Hs H d ds z x xs ex p ps h
  match d, ds, h with
  | .str a, [.str b], h =>
    obtain ⟨v, rfl, q⟩ := pks1 ps
    have p : x = .str (S a) := p
    have q : v = .str (S b) := q
    subst p q
    cases h
    exact ⟨.bl (b.isPrefixOf a), by simp only [Rp], fun Q q => ⟨S a, S b, rfl, rfl, by rw [starts_pre]; exact q⟩⟩
def rJoin (K : PySem.W.Frag) : V → List V → Hp → VK → Prop := fun x xs H Q => ∃ a p, ∃ ys : List Str, x = .str a ∧ xs = [.ref p] ∧ (SqL K H p (ys.map V.str) ∨ SqT K H p (ys.map V.str)) ∧ (ys.map (·.length)).sum + ys.length * a.length ≤ 16777216 ∧ Q (.str (Txt.join a ys)) H
def joinD : D → List D → Option D
  | .str a, [.lst ds] => (strsD ds).bind fun xs => if (xs.map (·.length)).sum + xs.length * a.length ≤ 16777216 then some (.str (TL.joinL a xs)) else none
  | _, _ => none
theorem join_q (a : List Nat) (ys : List (List Nat)) : Txt.join (S a) (ys.map S) = S (TL.joinL a ys) := SX.join_S a ys
theorem len_sum : ∀ xs : List (List Nat), ((xs.map S).map (·.length)).sum = (xs.map (·.length)).sum
  | [] => rfl
  | x :: r => by
    simp only [List.map_cons, List.sum_cons]
    rw [S_len, len_sum r]
theorem mv_join : MV K (rJoin K) joinD := by
  intro Hs H d ds z x xs ex p ps h
  match d, ds, h with
  | .str a, [.lst ds], h =>
    obtain ⟨v, rfl, q⟩ := pks1 ps
    have p : x = .str (S a) := p
    subst p
    obtain ⟨l, vs, rfl, h2, h3⟩ := q
    obtain ⟨ys, hb, h⟩ := Option.bind_eq_some_iff.mp (show (strsD ds).bind (fun xs => if (xs.map (·.length)).sum + xs.length * a.length ≤ 16777216 then some (D.str (TL.joinL a xs)) else none) = some z from h)
    split at h
    · rename_i hz
      cases h
      rw [strsD_eq hb] at h3
      have e := h3.strs
      subst e
      exact ⟨.str (S (TL.joinL a ys)), by simp only [Rp], fun Q q => ⟨S a, l, ys.map S, rfl, rfl, .inl (SqL.of h2), by rw [len_sum, List.length_map, S_len]; exact hz, by rw [join_q]; exact q⟩⟩
    · cases h
def eAnd (fa fb : FE) : FE := fun env => (fa env).bind fun p => match p.1 with
  | .bl true => fb p.2
  | .bl false => some (.bl false, p.2)
  | _ => none
def eOr (fa fb : FE) : FE := fun env => (fa env).bind fun p => match p.1 with
  | .bl true => some (.bl true, p.2)
  | .bl false => fb p.2
  | _ => none
def eNot (fa : FE) : FE := fun env => (fa env).bind fun p => match p.1 with
  | .bl b => some (.bl (!b), p.2)
  | _ => none
def eIf (ft fa fb : FE) : FE := fun env => (ft env).bind fun p => match p.1 with
  | .bl true => fa p.2
  | .bl false => fb p.2
  | _ => none
abbrev DW (X : Cx) (e : Expr) (f : FE) : Prop := PW X e (rdT X.K f)
theorem de_one {op} {a : Expr} {f : FE} {pos : Pos} (h : DE X a f) : DE X (.BoolOp op [a] pos) f := pe_one h
theorem de_and {a b : Expr} {rest : List Expr} {fa fb : FE} {pos : Pos} (ha : DE X a fa) (hb : DE X (.BoolOp .And (b :: rest) pos) fb) : DE X (.BoolOp .And (a :: b :: rest) pos) (eAnd fa fb) := by
  refine imp (pe_and ha hb) fun σ H Q h => ?_
  obtain ⟨x, env, Hs, d, env', I, hf, k⟩ := h
  obtain ⟨⟨c, e1⟩, h1, hf⟩ := Option.bind_eq_some_iff.mp hf
  refine ⟨x, env, Hs, c, e1, I, h1, fun v H1 Hs1 I1 s1 r1 => ?_⟩
  cases c <;> try (cases hf; done)
  rename_i b
  simp only [Rp] at r1
  refine ⟨b, r1, ?_⟩
  cases b with
  | true => exact ⟨x, e1, Hs1, d, env', I1, hf, fun v H2 Hs2 I2 s2 r2 => k v H2 Hs2 I2 (s1.trans s2) r2⟩
  | false =>
    cases hf
    exact k _ H1 Hs1 I1 s1 (by simp only [Rp])
theorem de_or {a b : Expr} {rest : List Expr} {fa fb : FE} {pos : Pos} (ha : DE X a fa) (hb : DE X (.BoolOp .Or (b :: rest) pos) fb) : DE X (.BoolOp .Or (a :: b :: rest) pos) (eOr fa fb) := by
  refine imp (pe_or ha hb) fun σ H Q h => ?_
  obtain ⟨x, env, Hs, d, env', I, hf, k⟩ := h
  obtain ⟨⟨c, e1⟩, h1, hf⟩ := Option.bind_eq_some_iff.mp hf
  refine ⟨x, env, Hs, c, e1, I, h1, fun v H1 Hs1 I1 s1 r1 => ?_⟩
  cases c <;> try (cases hf; done)
  rename_i b
  simp only [Rp] at r1
  refine ⟨b, r1, ?_⟩
  cases b with
  | false => exact ⟨x, e1, Hs1, d, env', I1, hf, fun v H2 Hs2 I2 s2 r2 => k v H2 Hs2 I2 (s1.trans s2) r2⟩
  | true =>
    cases hf
    exact k _ H1 Hs1 I1 s1 (by simp only [Rp])
theorem de_not {a : Expr} {fa : FE} {pos : Pos} (ha : DE X a fa) : DE X (.UnaryOp .Not a pos) (eNot fa) := by
  refine imp (pe_not ha) fun σ H Q h => ?_
  obtain ⟨x, env, Hs, d, env', I, hf, k⟩ := h
  obtain ⟨⟨c, e1⟩, h1, hf⟩ := Option.bind_eq_some_iff.mp hf
  refine ⟨x, env, Hs, c, e1, I, h1, fun v H1 Hs1 I1 s1 r1 => ?_⟩
  cases c <;> try (cases hf; done)
  rename_i b
  simp only [Rp] at r1
  cases hf
  exact ⟨b, r1, k _ H1 Hs1 I1 s1 (by simp only [Rp])⟩
theorem dw_and1 {a : Expr} {f : FE} {pos : Pos} (h : DT X a f) : DW X (.BoolOp .And [a] pos) f := pw_and1 h
theorem dw_or1 {a : Expr} {f : FE} {pos : Pos} (h : DT X a f) : DW X (.BoolOp .Or [a] pos) f := pw_or1 h
theorem impW {e : Expr} {t u : TT} (h : PW X e t) (k : ∀ σ H Q, u σ H Q → t σ H Q) : PW X e u := ⟨fun wh pins s σ H Q I q => h.run wh pins s σ H Q I (k σ H Q q)⟩
theorem dw_and {a b : Expr} {rest : List Expr} {fa fb : FE} {pos : Pos} (ha : DT X a fa) (hb : DW X (.BoolOp .And (b :: rest) pos) fb) : DW X (.BoolOp .And (a :: b :: rest) pos) (eAnd fa fb) := by
  refine impW (pw_and ha hb) fun σ H Q h => ?_
  obtain ⟨x, env, Hs, d, env', I, hf, k⟩ := h
  obtain ⟨⟨c, e1⟩, h1, hf⟩ := Option.bind_eq_some_iff.mp hf
  cases c <;> try (cases hf; done)
  rename_i b
  refine ⟨x, env, Hs, b, e1, I, h1, fun H1 Hs1 I1 s1 => ?_⟩
  cases b with
  | true => exact ⟨x, e1, Hs1, d, env', I1, hf, fun H2 Hs2 I2 s2 => k H2 Hs2 I2 (s1.trans s2)⟩
  | false =>
    cases hf
    exact k H1 Hs1 I1 s1
theorem dw_or {a b : Expr} {rest : List Expr} {fa fb : FE} {pos : Pos} (ha : DT X a fa) (hb : DW X (.BoolOp .Or (b :: rest) pos) fb) : DW X (.BoolOp .Or (a :: b :: rest) pos) (eOr fa fb) := by
  refine impW (pw_or ha hb) fun σ H Q h => ?_
  obtain ⟨x, env, Hs, d, env', I, hf, k⟩ := h
  obtain ⟨⟨c, e1⟩, h1, hf⟩ := Option.bind_eq_some_iff.mp hf
  cases c <;> try (cases hf; done)
  rename_i b
  refine ⟨x, env, Hs, b, e1, I, h1, fun H1 Hs1 I1 s1 => ?_⟩
  cases b with
  | false => exact ⟨x, e1, Hs1, d, env', I1, hf, fun H2 Hs2 I2 s2 => k H2 Hs2 I2 (s1.trans s2)⟩
  | true =>
    cases hf
    exact k H1 Hs1 I1 s1
theorem dt_w {e : Expr} {f : FE} (h : DW X e f) : DT X e f := h.pt
theorem dt_not {a : Expr} {fa : FE} {pos : Pos} (ha : DT X a fa) : DT X (.UnaryOp .Not a pos) (eNot fa) := by
  refine impT (pt_not ha) fun σ H Q h => ?_
  obtain ⟨x, env, Hs, d, env', I, hf, k⟩ := h
  obtain ⟨⟨c, e1⟩, h1, hf⟩ := Option.bind_eq_some_iff.mp hf
  cases c <;> try (cases hf; done)
  rename_i b
  cases hf
  exact ⟨x, env, Hs, b, _, I, h1, fun H1 Hs1 I1 s1 => k H1 Hs1 I1 s1⟩
theorem de_if {c a b : Expr} {fc fa fb : FE} {pos : Pos} (hc : DT X c fc) (ha : DE X a fa) (hb : DE X b fb) : DE X (.IfExp c a b pos) (eIf fc fa fb) := by
  refine imp (pe_ifExp hc ha hb) fun σ H Q h => ?_
  obtain ⟨x, env, Hs, d, env', I, hf, k⟩ := h
  obtain ⟨⟨c, e1⟩, h1, hf⟩ := Option.bind_eq_some_iff.mp hf
  cases c <;> try (cases hf; done)
  rename_i b
  refine ⟨x, env, Hs, b, e1, I, h1, fun H1 Hs1 I1 s1 => ?_⟩
  cases b with
  | true => exact ⟨x, e1, Hs1, d, env', I1, hf, fun v H2 Hs2 I2 s2 r2 => k v H2 Hs2 I2 (s1.trans s2) r2⟩
  | false => exact ⟨x, e1, Hs1, d, env', I1, hf, fun v H2 Hs2 I2 s2 r2 => k v H2 Hs2 I2 (s1.trans s2) r2⟩
def eNeg (fa : FE) : FE := fun env => (fa env).bind fun p => match p.1 with
  | .int i => some (.int (-i), p.2)
  | _ => none
theorem de_neg {a : Expr} {fa : FE} {pos : Pos} (ha : DE X a fa) : DE X (.UnaryOp .USub a pos) (eNeg fa) := by
  refine imp (pe_un un_neg ha) fun σ H Q h => ?_
  obtain ⟨x, env, Hs, d, env', I, hf, k⟩ := h
  obtain ⟨⟨c, e1⟩, h1, hf⟩ := Option.bind_eq_some_iff.mp hf
  refine ⟨x, env, Hs, c, e1, I, h1, fun v H1 Hs1 I1 s1 r1 => ?_⟩
  cases c <;> try (cases hf; done)
  rename_i i
  simp only [Rp] at r1
  cases hf
  exact ⟨i, r1, k _ H1 Hs1 I1 s1 (by simp only [Rp])⟩
theorem de_ty {n : String} {y : Str} {pos : Pos} (hm : X.mg y = none) (hv : bootBuiltins y = some (.type n)) (hg : Gl X y := by rfl) (hn : y ≠ "__name__" := by decide) (hdb : (y == ("__debug__" : Str)) = false := by decide) : DE X (.Name y pos) (eK (.ty n)) :=
  imp (pe_bltn (v := .ty n) hg hm hv rfl hn hdb) fun σ H Q h => by
  obtain ⟨x, env, Hs, d, env', I, hf, k⟩ := h
  cases hf
  exact k _ H Hs I (Same.refl _) (by simp only [Rp])
def tyN : D → Option String
  | .non => some "NoneType"
  | .bl _ => some "bool"
  | .int _ => some "int"
  | .str _ => some "str"
  | .tup _ => some "tuple"
  | .lst _ => some "list"
  | .dic _ => some "dict"
  | _ => none
def isiB (a b : String) : Bool := a == b || (a == "bool" && b == "int")
def knownT (b : String) : Bool := b == "int" || b == "bool" || b == "str" || b == "tuple" || b == "list" || b == "dict"
def isiD : List D → Option D
  | [d, .ty n] => if knownT n then (tyN d).map fun t => .bl (isiB t n) else none
  | _ => none
theorem kit_all : ∀ a ∈ ["NoneType", "bool", "int", "str", "tuple", "list", "dict"], ∀ b ∈ ["int", "bool", "str", "tuple", "list", "dict"], kitB a b = some (isiB a b) := by decide +kernel
theorem tyN_x {Hs H : Hp} {d : D} {v : V} {t : String} (h : tyN d = some t) (p : Pk K Hs H d v) : TyX K H v (.type t) ∧ t ∈ ["NoneType", "bool", "int", "str", "tuple", "list", "dict"] := by
  cases d <;> try (cases h; done)
  · cases h
    cases (show v = .non from p)
    exact ⟨.base .non, by decide⟩
  · cases h
    rename_i b
    cases (show v = .bl b from p)
    exact ⟨.base (.bl b), by decide⟩
  · cases h
    rename_i b
    cases (show v = .int b from p)
    exact ⟨.base (.int b), by decide⟩
  · cases h
    rename_i b
    cases (show v = .str (S b) from p)
    exact ⟨.base (.str _), by decide⟩
  · cases h
    obtain ⟨a, vs, rfl, h2, _⟩ := p
    refine ⟨?_, by decide⟩
    rcases h2 with (h2 | ⟨o, h2⟩) | ⟨o, its, n, h2, h3, _⟩
    · exact .base (.tup h2)
    · exact .fTuple h2
    · exact .kTuple h2 h3
  · cases h
    obtain ⟨a, vs, rfl, h2, _⟩ := p
    exact ⟨.base (.lst h2), by decide⟩
  · cases h
    obtain ⟨a, vs, rfl, h2, _⟩ := p
    exact ⟨.base (.dK h2), by decide⟩
theorem cv_isi : CV K (rIsi K) isiD := by
  intro Hs H ds z vs ex ps h
  match ds, h with
  | [d, .ty n], h =>
    obtain ⟨v, w, rfl, p, q⟩ := pks2 ps
    have h : (if knownT n then (tyN d).map fun t => D.bl (isiB t n) else none) = some z := h
    split at h
    · rename_i hk
      obtain ⟨t, ht, h⟩ := Option.map_eq_some_iff.mp h
      cases h
      cases (show w = .ty n from q)
      obtain ⟨h1, h2⟩ := tyN_x ht p
      have h3 : n ∈ ["int", "bool", "str", "tuple", "list", "dict"] := by
        unfold knownT at hk
        simp only [Bool.or_eq_true, beq_iff_eq] at hk
        simp only [List.mem_cons, List.mem_nil_iff, or_false]
        rcases hk with ((((h | h) | h) | h) | h) | h <;> simp [h]
      exact ⟨.bl (isiB t n), by simp only [Rp], fun Q q => ⟨v, .ty n, .type t, .type n, isiB t n, rfl, .ty n, h1, kit_ty (kit_all t h2 n h3), q⟩⟩
    · cases h
end
end Qd
namespace Qd
open PySem PySem.Spec L2
section
variable {X : Cx} {K : PySem.W.Frag}
def eMut (i : Nat) (g : List D → List D → Option (D × List D)) (fa : FA) : FE := fun env => match env[i]? with
  | some (some (_, .lst _)) => (fa env).bind fun p => (allD p.1).bind fun as => match p.2[i]? with
    | some (some (.sh, _)) => none
    | some (some (k, .lst ds)) => (g ds as).map fun z => (z.1, p.2.set i (some (k, .lst z.2)))
    | _ => none
  | _ => none
def MM (K : PySem.W.Frag) (r : V → List V → Hp → VK → Prop) (g : List D → List D → Option (D × List D)) : Prop := ∀ (Hs H : Hp) (p : Addr) (ds : List D) (vs : List V) (as : List D) (xs : List V) (z : D) (ds' : List D), Same Hs H → H p = some (.lst vs) → Rps K Hs ds vs → Rps K Hs as xs → g ds as = some (z, ds') → ∃ u vs', Rp K Hs z u ∧ Rps K Hs ds' vs' ∧ ∀ Q : VK, Q u (upd H p (.lst vs')) → r (.ref p) xs H Q
theorem mutRun {i : Nat} {g : List D → List D → Option (D × List D)} {fa : FA} {x : Fx} {env env' : En} {σ : L2.St} {Hs H : Hp} {z : D} {r : V → List V → Hp → VK → Prop} {Q : VK} (hm : MM K r g) (I : IV K x env σ Hs H) (hf : eMut i g fa env = some (z, env'))
    (k : ∀ v H' Hs', IV K x env' σ Hs' H' → Same Hs Hs' → Rp K Hs' z v → Q v H') : rdO K (oS i) σ H fun v H1 => tyV K "list" v H1 ∧ rdA K fa σ H1 fun vs H2 => r v vs H2 Q := by
  unfold eMut at hf
  split at hf
  · rename_i kd ds0 hi0
    obtain ⟨⟨os, e2⟩, h1, hf⟩ := Option.bind_eq_some_iff.mp hf
    obtain ⟨as, h2, hf⟩ := Option.bind_eq_some_iff.mp hf
    split at hf
    · cases hf
    · rename_i kk ds hks hi2
      obtain ⟨⟨z1, ds'⟩, h3, hf⟩ := Option.map_eq_some_iff.mp hf
      cases hf
      have e0 : os = as.map Ov.d := allD_eq h2
      have hk : kk ≠ .sh := hks
      obtain ⟨v0, hv0, p0⟩ := I.slot hi0
      refine ⟨x, env, Hs, .s i, env, I, by unfold oS; rw [hi0], fun v H1 Hs1 I1 s1 o1 => ⟨?_, x, env, Hs1, os, e2, I1, h1, fun vs H2 Hs2 I2 s2 o2 => ?_⟩⟩
      · have o1 : σ[i]? = some (some v) := o1
        obtain ⟨v1, hv1, p1⟩ := I1.slot hi0
        rw [o1] at hv1
        cases hv1
        exact ty_lst Hs1 H1 (.lst ds0) v rfl p1
      · have o1 : σ[i]? = some (some v) := o1
        have hi2 : e2[i]? = some (some (kk, .lst ds)) := hi2
        obtain ⟨p, a, b, c, ow, _⟩ := I2.ow i kk (.lst ds) hi2 hk
        rw [o1] at a
        cases a
        obtain ⟨ws, hp, rw'⟩ := ow
        rw [e0] at o2
        obtain ⟨u, vs', ru, rvs, hr⟩ := hm Hs2 H2 p ds ws as vs _ ds' I2.ex hp rw' o2.rps h3
        exact hr Q (k u _ Hs2 (I2.put hi2 hk o1 ⟨vs', upd_same, rvs⟩) (s1.trans s2) ru)
    · cases hf
  · cases hf
theorem de_mut (i : Nat) {x : Str} {id : String} {name : Str} {r : V → List V → Hp → VK → Prop} {g : List D → List D → Option (D × List D)} {e : Expr} {es : List Expr} {fa : FA} {pos apos cpos : Pos} (slot : Slot "list" name id) (hty : typeOf (.builtin id) = pure (.type "method_descriptor"))
    (hm : MtR X id r) (hv : MM X.K r g) (ha : DA X (e :: es) fa) (hN : X.N[i]? = some x := by rfl) (hvis : Vis X.env.scope x := by first | exact Or.inl rfl | exact Or.inr (Or.inl rfl) | exact Or.inr (Or.inr rfl)) (hd : (x == ("__debug__" : Str)) = false := by decide)
    (hcd : (x == ("__classdict__" : Str)) = false := by decide) (hbase : attributeBase (.Name x pos) name X.env (eval (.Name x pos) X.env) = eval (.Name x pos) X.env := by rfl)
    (hfew : ((backTo cpos (starEach (e :: es) X.env)).all (fun x => !x.1) && (backToKw cpos (keywordEach [] X.env)).all (fun x => x.1.isSome)
      && decide ((e :: es).length + ([] : List Keyword).length + (if ([] : List Keyword).isEmpty then 0 else 1) < 30)) = true := by rfl)
    (hline : (apos.endLine == cpos.line) = true := by rfl) (hs : starEach (e :: es) X.env = (false, eval e X.env) :: starEach es X.env := by rfl) (hplain : (backTo cpos (starEach es X.env)).any (·.1) = false := by rfl) :
    DE X (.Call (.Attribute (.Name x pos) name apos) (e :: es) [] cpos) (eMut i g fa) := by
  refine imp (pe_bm PySem.F.plainAttrs_list slot hty hm (do_peek i hN hvis hd hcd) ha hbase hfew hline hs hplain) fun σ H Q h => ?_
  obtain ⟨y, env, Hs, d, env', I, hf, k⟩ := h
  exact mutRun hv I hf k
theorem de_mut0 (i : Nat) {x : Str} {id : String} {name : Str} {r : V → List V → Hp → VK → Prop} {g : List D → List D → Option (D × List D)} {pos apos cpos : Pos} (slot : Slot "list" name id) (hty : typeOf (.builtin id) = pure (.type "method_descriptor"))
    (hm : MtR X id r) (hv : MM X.K r g) (hN : X.N[i]? = some x := by rfl) (hvis : Vis X.env.scope x := by first | exact Or.inl rfl | exact Or.inr (Or.inl rfl) | exact Or.inr (Or.inr rfl)) (hd : (x == ("__debug__" : Str)) = false := by decide)
    (hcd : (x == ("__classdict__" : Str)) = false := by decide) (hbase : attributeBase (.Name x pos) name X.env (eval (.Name x pos) X.env) = eval (.Name x pos) X.env := by rfl) (hline : (apos.endLine == cpos.line) = true := by rfl) :
    DE X (.Call (.Attribute (.Name x pos) name apos) [] [] cpos) (eMut i g aNil) := by
  refine imp (pe_bm0 PySem.F.plainAttrs_list slot hty hm (do_peek i hN hvis hd hcd) hbase hline) fun σ H Q h => ?_
  obtain ⟨y, env, Hs, d, env', I, hf, k⟩ := h
  obtain ⟨y', env1, Hs1, o, e1, I1, h1, h2⟩ := mutRun hv I hf k
  refine ⟨y', env1, Hs1, o, e1, I1, h1, fun v H2 Hs2 I2 s2 r2 => ?_⟩
  obtain ⟨t, a, env3, Hs3, os, e3, I3, h3, h4⟩ := h2 v H2 Hs2 I2 s2 r2
  cases h3
  exact ⟨t, h4 [] H2 Hs3 I3 (Same.refl _) trivial⟩
def gApp : List D → List D → Option (D × List D)
  | ds, [d] => if ds.length < sizeLine then some (.non, ds ++ [d]) else none
  | _, _ => none
def gExt : List D → List D → Option (D × List D)
  | ds, [.lst es] => if ds.length + es.length ≤ sizeLine then some (.non, ds ++ es) else none
  | _, _ => none
def gPop : List D → List D → Option (D × List D)
  | ds, [] => match ds[ds.length - 1]? with
    | some d => some (d, ds.dropLast)
    | none => none
  | _, _ => none
def gPopAt : List D → List D → Option (D × List D)
  | ds, [.int i] => if 0 ≤ i ∧ i < 1000000 then match ds[i.toNat]? with
    | some d => some (d, ds.eraseIdx i.toNat)
    | none => none
    else none
  | _, _ => none
theorem Rps.dropLast {H : Hp} {ds : List D} {vs : List V} (r : Rps K H ds vs) : Rps K H ds.dropLast vs.dropLast := by
  rw [List.dropLast_eq_take, List.dropLast_eq_take, r.length]
  exact r.take _
theorem mm_app : MM K rAppend gApp := by
  intro Hs H p ds vs as xs z ds' ex hp r ra h
  match as, h with
  | [d], h =>
    have h : (if ds.length < sizeLine then some (D.non, ds ++ [d]) else none) = some (z, ds') := h
    split at h
    · rename_i hz
      cases h
      simp only [Rps] at ra
      obtain ⟨v, r', rfl, h1, rfl⟩ := ra
      exact ⟨.non, vs ++ [v], by simp only [Rp], r.append (by simp only [Rps]; exact ⟨v, [], rfl, h1, rfl⟩), fun Q q => ⟨p, vs, v, rfl, rfl, hp, by rw [r.length]; exact hz, q⟩⟩
    · cases h
theorem mm_ext : MM K rExtend gExt := by
  intro Hs H p ds vs as xs z ds' ex hp r ra h
  match as, h with
  | [.lst es], h =>
    have h : (if ds.length + es.length ≤ sizeLine then some (D.non, ds ++ es) else none) = some (z, ds') := h
    split at h
    · rename_i hz
      cases h
      simp only [Rps, Rp] at ra
      obtain ⟨v, r', rfl, ⟨b, ws, rfl, h1, h2⟩, rfl⟩ := ra
      exact ⟨.non, vs ++ ws, by simp only [Rp], r.append h2, fun Q q => ⟨p, b, vs, ws, rfl, rfl, hp, ex _ _ h1, by rw [r.length, h2.length]; exact hz, q⟩⟩
    · cases h
theorem mm_pop : MM K rPop gPop := by
  intro Hs H p ds vs as xs z ds' ex hp r ra h
  match as, h with
  | [], h =>
    have h : (match ds[ds.length - 1]? with
      | some d => some (d, ds.dropLast)
      | none => none) = some (z, ds') := h
    split at h
    · rename_i d hd
      cases h
      simp only [Rps] at ra
      subst ra
      obtain ⟨v, hv, rv⟩ := r.get hd
      exact ⟨v, vs.dropLast, rv, r.dropLast, fun Q q => ⟨p, vs, v, rfl, rfl, hp, by rw [r.length]; exact hv, q⟩⟩
    · cases h
theorem mm_popAt : MM K rPopAt gPopAt := by
  intro Hs H p ds vs as xs z ds' ex hp r ra h
  match as, h with
  | [.int i], h =>
    have h : (if 0 ≤ i ∧ i < 1000000 then match ds[i.toNat]? with
      | some d => some (d, ds.eraseIdx i.toNat)
      | none => none
      else none) = some (z, ds') := h
    split at h
    · rename_i hz
      split at h
      · rename_i d hd
        cases h
        simp only [Rps, Rp] at ra
        obtain ⟨v, r', rfl, rfl, rfl⟩ := ra
        obtain ⟨v, hv, rv⟩ := r.get hd
        have hl : i.toNat < vs.length := (List.getElem?_eq_some_iff.mp hv).1
        refine ⟨v, vs.eraseIdx i.toNat, rv, r.eraseIdx _, fun Q q => ⟨p, vs, i, i.toNat, v, rfl, rfl, hp, by omega, by omega, ?_, hv, q⟩⟩
        have e1 : (decide (0 ≤ i) && decide (i < (vs.length : Int))) = true := by
          simp
          omega
        unfold seqIndex?
        rw [if_neg (show ¬ i < 0 by omega)]
        show (if (decide (0 ≤ i) && decide (i < (vs.length : Int))) = true then some i.toNat else none) = _
        rw [if_pos e1]
      · cases h
    · cases h
abbrev FG := En → D → Option En
def Off (vs : List Nat) (σ σ' : L2.St) : Prop := σ'.length = σ.length ∧ ∀ j, j ∉ vs → σ'[j]? = σ[j]?
def rdG (K : PySem.W.Frag) (f : FG) (vs : List Nat) : TG := fun v σ H Q => ∃ x env Hs d env', IV K x env σ Hs H ∧ Rp K Hs d v ∧ f env d = some env' ∧ ∀ σ' H' Hs', IV K x env' σ' Hs' H' → Same Hs Hs' → Off vs σ σ' → Q σ' H'
abbrev DG (X : Cx) (tg : Expr) (f : FG) (vs : List Nat) : Prop := PG X tg (rdG X.K f vs)
def okSet (env : En) (i : Nat) : Bool := match env[i]? with
  | some (some (.pn, _)) => false
  | some _ => true
  | none => false
theorem okSet_lt {env : En} {i : Nat} (h : okSet env i = true) : i < env.length := by
  unfold okSet at h
  split at h
  · cases h
  · rename_i hq
    exact (List.getElem?_eq_some_iff.mp hq).1
  · cases h
def gN (i : Nat) : FG := fun env d => if okSet env i then some (env.set i (some (.sh, d))) else none
theorem dg_name (i : Nat) {x : Str} {pos : Pos} (hN : X.N.Nodup) (hi : X.N[i]? = some x := by rfl) (hx : Loc X.env.scope x := by first | exact Or.inl rfl | exact Or.inr rfl) (hf : X.fn x = true ∨ X.env.scope.names.lookup x = some .local := by first | exact .inl rfl | exact .inr rfl | assumption) : DG X (.Name x pos) (gN i) [i] := by
  have h := pg_name (pos := pos) hN hi hx hf
  refine ⟨fun pins s σ H v u Q I r hh => h.run pins s σ H v u Q I r ?_⟩
  obtain ⟨y, env, Hs, d, env', I, rp, hf, k⟩ := hh
  unfold gN at hf
  split at hf
  · rename_i ho
    cases hf
    exact k _ H Hs (I.setSh (by rw [← I.len]; exact okSet_lt ho) rp) (Same.refl _) ⟨List.length_set, fun j hj => List.getElem?_set_ne (fun e => hj (by simp [e]))⟩
  · cases hf
abbrev FGs := En → List D → Option En
def rdGs (K : PySem.W.Frag) (f : FGs) (us : List Nat) : TGs := fun vs σ H Q => ∃ x env Hs ds env', IV K x env σ Hs H ∧ Rps K Hs ds vs ∧ f env ds = some env' ∧ ∀ σ' H' Hs', IV K x env' σ' Hs' H' → Same Hs Hs' → Off us σ σ' → Q σ' H'
abbrev DGs (X : Cx) (tg : List Expr) (f : FGs) (us : List Nat) : Prop := PGs X tg (rdGs X.K f us)
def gsNil : FGs := fun env ds => match ds with
  | [] => some env
  | _ => none
def gsCons (f : FG) (g : FGs) : FGs := fun env ds => match ds with
  | d :: r => (f env d).bind fun e => g e r
  | _ => none
def gT (n : Nat) (f : FGs) : FG := fun env d => match d with
  | .tup ds => if ds.length = n then f env ds else none
  | _ => none
theorem impGs {ts : List Expr} {t u : TGs} (h : PGs X ts t) (k : ∀ vs σ H Q, u vs σ H Q → t vs σ H Q) : PGs X ts u := ⟨fun pins s σ H vs us Q I r hh => h.run pins s σ H vs us Q I r (k vs σ H Q hh)⟩
theorem impG {ts : Expr} {t u : TG} (h : PG X ts t) (k : ∀ v σ H Q, u v σ H Q → t v σ H Q) : PG X ts u := ⟨fun pins s σ H v us Q I r hh => h.run pins s σ H v us Q I r (k v σ H Q hh)⟩
theorem dgs_nil : DGs X [] gsNil [] := impGs pgs_nil fun vs σ H Q h => by
  obtain ⟨y, env, Hs, ds, env', I, rp, hf, k⟩ := h
  unfold gsNil at hf
  split at hf
  · cases hf
    simp only [Rps] at rp
    exact ⟨rp, k σ H Hs I (Same.refl _) ⟨rfl, fun _ _ => rfl⟩⟩
  · cases hf
theorem dgs_cons {e : Expr} {es : List Expr} {f : FG} {g : FGs} {u1 u2 : List Nat} (h1 : DG X e f u1) (h2 : DGs X es g u2) (hs : (assignEach (e :: es) X.env).map (·.2) = assign e X.env :: (assignEach es X.env).map (·.2) := by rfl) : DGs X (e :: es) (gsCons f g) (u1 ++ u2) := impGs (pgs_cons h1 h2 hs) fun vs σ H Q h => by
  obtain ⟨y, env, Hs, ds, env', I, rp, hf, k⟩ := h
  unfold gsCons at hf
  split at hf
  · obtain ⟨e1, h3, hf⟩ := Option.bind_eq_some_iff.mp hf
    simp only [Rps] at rp
    obtain ⟨v, r, rfl, r1, r2⟩ := rp
    exact ⟨v, r, rfl, y, env, Hs, _, e1, I, r1, h3, fun σ' H' Hs' I' s' o' => ⟨y, e1, Hs', _, env', I', Rps.mono s' _ r2, hf, fun σ2 H2 Hs2 I2 s2 o2 => k σ2 H2 Hs2 I2 (s'.trans s2) ⟨o2.1.trans o'.1, fun j hj => (o2.2 j fun z => hj (List.mem_append_right _ z)).trans (o'.2 j fun z => hj (List.mem_append_left _ z))⟩⟩⟩
  · cases hf
theorem dg_tup {n : Nat} {es : List Expr} {kk : Nat} {f : FGs} {us : List Nat} {pos : Pos} (hc : X.calm = true) (h : DGs X es f us) (hn : (assignEach es X.env).length = n := by rfl) (hst : (assignEach es X.env).findIdx? (·.1) = none := by rfl) : DG X (.Tuple es kk pos) (gT n f) us := impG (pg_tup hc h hn hst) fun v σ H Q h => by
  obtain ⟨y, env, Hs, d, env', I, rp, hf, k⟩ := h
  unfold gT at hf
  split at hf
  · split at hf
    · rename_i ds hl
      simp only [Rp] at rp
      obtain ⟨a, vs, rfl, g2, g3⟩ := rp
      exact ⟨a, vs, rfl, same_sqT I.ex g2, by rw [g3.length]; exact hl, y, env, Hs, ds, env', I, g3, hf, k⟩
    · cases hf
  · cases hf
def sSeq (F G : FS) : FS := fun env => (F env).bind fun o => match o with
  | .nx e => G e
  | o => some o
def sNil : FS := fun env => some (.nx env)
def sE (f : FE) : FS := fun env => (f env).map fun p => .nx p.2
def sRet (f : FE) : FS := fun env => (f env).map fun p => .rt false p.1 p.2
def sRetF (f : FE) : FS := fun env => (f env).map fun p => .rt true p.1 p.2
def sRetN : FS := fun env => some (.rt false .non env)
def sIf (c : FE) (F G : FS) : FS := fun env => (c env).bind fun p => match p.1 with
  | .bl true => F p.2
  | .bl false => G p.2
  | _ => none
def sBk : FS := fun env => some (.bk env)
def sCt : FS := fun env => some (.ct env)
def sG (f : FE) (g : FG) : FS := fun env => (f env).bind fun p => (g p.2 p.1).map fun e => .nx e
def sOw (i : Nat) (f : FE) : FS := fun env => (f env).bind fun p => if okSet p.2 i then some (.nx (p.2.set i (some (.ow, p.1)))) else none
theorem dss_nil : DSs X [] sNil := impSs pss_nil fun Z σ H h => by
  obtain ⟨y, env, Hs, o, I, hf, k⟩ := h
  cases hf
  exact k σ H Hs I (Same.refl _)
theorem dss_cons {st : Stmt} {rest : List Stmt} {F G : FS} (h1 : DS X st F) (h2 : DSs X rest G) : DSs X (st :: rest) (sSeq F G) := impSs (pss_cons h1 h2) fun Z σ H h => by
  obtain ⟨y, env, Hs, o, I, hf, k⟩ := h
  obtain ⟨o1, h1, hf⟩ := Option.bind_eq_some_iff.mp hf
  refine ⟨y, env, Hs, o1, I, h1, ?_⟩
  cases o1 with
  | nx e => exact fun σ' H' Hs' I' s' => ⟨y, e, Hs', o, I', hf, k.mono s'⟩
  | bk e => cases hf; exact k
  | ct e => cases hf; exact k
  | rt b d e =>
    cases hf
    cases b with
    | true => exact k
    | false => exact k
theorem dss_one {st : Stmt} {F : FS} (h1 : DS X st F) : DSs X [st] F := pss_one h1
theorem ds_expr {e : Expr} {f : FE} {pos : Pos} (h : DE X e f) (hs : swapsWith e none pos.line X.env = pure false := by rfl) : DS X (.Expr e pos) (sE f) := impS (ps_expr h hs) fun Z σ H h => by
  obtain ⟨y, env, Hs, o, I, hf, k⟩ := h
  obtain ⟨⟨d, e1⟩, h1, hf⟩ := Option.map_eq_some_iff.mp hf
  cases hf
  exact ⟨y, env, Hs, d, e1, I, h1, fun v H' Hs' I' s' _ => k σ H' Hs' I' s'⟩
theorem ds_pass {pos : Pos} : DS X (.Pass pos) sNil := impS ps_pass fun Z σ H h => by
  obtain ⟨y, env, Hs, o, I, hf, k⟩ := h
  cases hf
  exact k σ H Hs I (Same.refl _)
theorem ds_break {pos : Pos} : DS X (.Break pos) sBk := impS ps_break fun Z σ H h => by
  obtain ⟨y, env, Hs, o, I, hf, k⟩ := h
  cases hf
  exact k σ H Hs I (Same.refl _)
theorem ds_continue {pos : Pos} : DS X (.Continue pos) sCt := impS ps_continue fun Z σ H h => by
  obtain ⟨y, env, Hs, o, I, hf, k⟩ := h
  cases hf
  exact k σ H Hs I (Same.refl _)
theorem ds_ret {e : Expr} {f : FE} {pos : Pos} (h : DE X e f) : DS X (.Return (some e) pos) (sRet f) := impS (ps_ret h) fun Z σ H h => by
  obtain ⟨y, env, Hs, o, I, hf, k⟩ := h
  obtain ⟨⟨d, e1⟩, h1, hf⟩ := Option.map_eq_some_iff.mp hf
  cases hf
  exact ⟨y, env, Hs, d, e1, I, h1, fun v H' Hs' I' s' r => k v σ H' Hs' I' s' r⟩
theorem ds_retF {e : Expr} {f : FE} {pos : Pos} (h : DF X e f) : DS X (.Return (some e) pos) (sRetF f) := impS (ps_ret h) fun Z σ H h => by
  obtain ⟨y, env, Hs, o, I, hf, k⟩ := h
  obtain ⟨⟨d, e1⟩, h1, hf⟩ := Option.map_eq_some_iff.mp hf
  cases hf
  exact ⟨y, env, Hs, d, e1, I, h1, fun p H' Hs' I' s' o n m ap => k p σ H' Hs' I' s' o n m ap⟩
theorem ds_retN {pos : Pos} : DS X (.Return none pos) sRetN := impS ps_retN fun Z σ H h => by
  obtain ⟨y, env, Hs, o, I, hf, k⟩ := h
  cases hf
  exact k .non σ H Hs I (Same.refl _) (by simp only [Rp])
theorem ds_if {c : Expr} {a b : List Stmt} {fc : FE} {F G : FS} {pos : Pos} (hc : DT X c fc) (ha : DSs X a F) (hb : DSs X b G) : DS X (.If c a b pos) (sIf fc F G) := impS (ps_if hc ha hb) fun Z σ H h => by
  obtain ⟨y, env, Hs, o, I, hf, k⟩ := h
  obtain ⟨⟨d, e1⟩, h1, hf⟩ := Option.bind_eq_some_iff.mp hf
  cases d <;> try (cases hf; done)
  rename_i b
  refine ⟨y, env, Hs, b, e1, I, h1, fun H' Hs' I' s' => ?_⟩
  cases b with
  | true => exact ⟨y, e1, Hs', o, I', hf, k.mono s'⟩
  | false => exact ⟨y, e1, Hs', o, I', hf, k.mono s'⟩
/-- target = e -/
theorem ds_asg {tg e : Expr} {f : FE} {g : FG} {us : List Nat} {pos : Pos} (he : DE X e f) (hg : DG X tg g us) (hs : swapsWithSole [tg] e pos.line X.env = pure false := by rfl) (hw : swappedStores [tg] e X.env = pure none := by rfl) (h1 : (assignEach [tg] X.env).map (·.2) = [assign tg X.env] := by rfl) : DS X (.Assign [tg] e pos) (sG f g) := impS (ps_asg he hg hs hw h1) fun Z σ H h => by
  obtain ⟨y, env, Hs, o, I, hf, k⟩ := h
  obtain ⟨⟨d, e1⟩, h1, hf⟩ := Option.bind_eq_some_iff.mp hf
  obtain ⟨e2, h2, hf⟩ := Option.map_eq_some_iff.mp hf
  cases hf
  exact ⟨y, env, Hs, d, e1, I, h1, fun v H' Hs' I' s' r => ⟨y, e1, Hs', d, e2, I', r, h2, fun σ2 H2 Hs2 I2 s2 _ => k σ2 H2 Hs2 I2 (s'.trans s2)⟩⟩
/-- x = e, x shared; x = e, x owned -/
theorem ds_set (i : Nat) {x : Str} {e : Expr} {f : FE} {pos pos' : Pos} (hN : X.N.Nodup) (he : DE X e f) (hi : X.N[i]? = some x := by rfl) (hx : Loc X.env.scope x := by first | exact Or.inl rfl | exact Or.inr rfl) (hs : swapsWith e (some (.Name x pos')) pos.line X.env = pure false := by rfl)
    (hf : X.fn x = true ∨ X.env.scope.names.lookup x = some .local := by first | exact .inl rfl | exact .inr rfl | assumption) : DS X (.Assign [.Name x pos'] e pos) (sG f (gN i)) := impS (ps_set hN hi hx he hs hf) fun Z σ H h => by
  obtain ⟨y, env, Hs, o, I, hf, k⟩ := h
  obtain ⟨⟨d, e1⟩, h1, hf⟩ := Option.bind_eq_some_iff.mp hf
  obtain ⟨e2, h2, hf⟩ := Option.map_eq_some_iff.mp hf
  cases hf
  refine ⟨y, env, Hs, d, e1, I, h1, fun v H' Hs' I' s' r => ?_⟩
  unfold gN at h2
  split at h2
  · rename_i ho
    cases h2
    exact k _ H' Hs' (I'.setSh (by rw [← I'.len]; exact okSet_lt ho) r) s'
  · cases h2
theorem ds_own (i : Nat) {x : Str} {e : Expr} {f : FE} {pos pos' : Pos} (hN : X.N.Nodup) (he : DF X e f) (hi : X.N[i]? = some x := by rfl) (hx : Loc X.env.scope x := by first | exact Or.inl rfl | exact Or.inr rfl) (hs : swapsWith e (some (.Name x pos')) pos.line X.env = pure false := by rfl)
    (hf : X.fn x = true ∨ X.env.scope.names.lookup x = some .local := by first | exact .inl rfl | exact .inr rfl | assumption) : DS X (.Assign [.Name x pos'] e pos) (sOw i f) := impS (ps_set hN hi hx he hs hf) fun Z σ H h => by
  obtain ⟨y, env, Hs, o, I, hf, k⟩ := h
  obtain ⟨⟨d, e1⟩, h1, hf⟩ := Option.bind_eq_some_iff.mp hf
  split at hf
  · rename_i ho
    cases hf
    exact ⟨y, env, Hs, d, e1, I, h1, fun p H' Hs' I' s' ow n m ap => k _ H' Hs' (I'.setOw (by rw [← I'.len]; exact okSet_lt ho) ow n m ap) s'⟩
  · cases hf
/-- what slot i owns is shared from here on -/
def sFz (i : Nat) (F : FS) : FS := fun env => match env[i]? with
  | some (some (.ow, d)) => F (env.set i (some (.sh, d)))
  | _ => F env
theorem ds_fz (i : Nat) {st : Stmt} {F : FS} (h : DS X st F) : DS X st (sFz i F) := impS h fun Z σ H h => by
  obtain ⟨y, env, Hs, o, I, hf, k⟩ := h
  unfold sFz at hf
  split at hf
  · rename_i d hi
    obtain ⟨Hs', I', s'⟩ := I.fz hi
    exact ⟨y, _, Hs', o, I', hf, k.mono s'⟩
  · exact ⟨y, env, Hs, o, I, hf, k⟩
/-- xs[i] = e, xs owned -/
def sSetL (i : Nat) (fi fv : FE) : FS := fun env => (fv env).bind fun p => (oS i p.2).bind fun _ => (fi p.2).bind fun q => match q.1 with
  | .int n => (match q.2[i]? with
    | some (some (k, .lst ds)) => if k = .sh then none else (ixN ds.length n).map fun j => .nx (q.2.set i (some (k, .lst (ds.set j p.1))))
    | _ => none)
  | _ => none
theorem ds_setL (i : Nat) {x : Str} {ei e : Expr} {fi fv : FE} {pos px ps : Pos} (hi : DE X ei fi) (he : DE X e fv) (hN : X.N[i]? = some x := by rfl) (hvis : Vis X.env.scope x := by first | exact Or.inl rfl | exact Or.inr (Or.inl rfl) | exact Or.inr (Or.inr rfl)) (hd : (x == ("__debug__" : Str)) = false := by decide)
    (hcd : (x == ("__classdict__" : Str)) = false := by decide) (ha : ∀ v, assign (.Subscript (.Name x px) ei ps) X.env v = (do
      let ov ← holding [v] (eval (.Name x px) X.env)
      let iv ← holding [v, ov] (eval ei X.env)
      standAt ps
      holding [v, ov, iv] (setItem ov iv v)
      release [v, ov, iv] []) := by intro _; rfl) (hs : swapsWithSole [.Subscript (.Name x px) ei ps] e pos.line X.env = pure false := by rfl) (hw : swappedStores [.Subscript (.Name x px) ei ps] e X.env = pure none := by rfl) :
    DS X (.Assign [.Subscript (.Name x px) ei ps] e pos) (sSetL i fi fv) := impS (ps_asg he (pg_sub (do_peek i hN hvis hd hcd) hi set_list ha) hs hw) fun Z σ H h => by
  obtain ⟨y, env, Hs, o, I, hf, k⟩ := h
  obtain ⟨⟨d, e1⟩, h1, hf⟩ := Option.bind_eq_some_iff.mp hf
  obtain ⟨⟨o1, e1'⟩, h3, hf⟩ := Option.bind_eq_some_iff.mp hf
  obtain ⟨⟨n, e2⟩, h2, hf⟩ := Option.bind_eq_some_iff.mp hf
  have h3' : o1 = .s i ∧ e1' = e1 := by
    unfold oS at h3
    split at h3
    · cases h3
      exact ⟨rfl, rfl⟩
    · cases h3
  obtain ⟨rfl, rfl⟩ := h3'
  refine ⟨y, env, Hs, d, _, I, h1, fun v H1 Hs1 I1 s1 r1 => ⟨y, _, Hs1, .s i, _, I1, h3, fun w H2 Hs2 I2 s2 o2 => ⟨y, _, Hs2, n, e2, I2, h2, fun u H3 Hs3 I3 s3 r3 => ?_⟩⟩⟩
  cases n <;> try (cases hf; done)
  rename_i n
  simp only [Rp] at r3
  subst r3
  have hf : (match e2[i]? with
    | some (some (k, .lst ds)) => if k = .sh then none else (ixN ds.length n).map fun j => Out.nx (e2.set i (some (k, .lst (ds.set j d))))
    | _ => none) = some o := hf
  split at hf
  · rename_i kk ds hi2
    split at hf
    · cases hf
    · rename_i hk
      obtain ⟨j, hj, hf⟩ := Option.map_eq_some_iff.mp hf
      cases hf
      have o2 : σ[i]? = some (some w) := o2
      obtain ⟨p, a, b, c, ow, _⟩ := I3.ow i kk (.lst ds) hi2 hk
      rw [o2] at a
      cases a
      obtain ⟨ws, hp, rw'⟩ := ow
      refine ⟨p, ws, n, j, rfl, rfl, hp, by rw [rw'.length]; exact hj, ?_⟩
      exact k σ _ Hs3 (I3.put hi2 hk o2 ⟨_, upd_same, rw'.set j (Rp.mono (s2.trans s3) _ r1)⟩) (s1.trans (s2.trans s3))
  · cases hf
end
end Qd
namespace Qd
open PySem PySem.Spec L2
mutual
def beqD : D → D → Bool
  | .non, .non => true
  | .bl a, .bl b => a == b
  | .int a, .int b => decide (a = b)
  | .str a, .str b => decide (a = b)
  | .tup a, .tup b => beqDs a b
  | .lst a, .lst b => beqDs a b
  | .dic a, .dic b => beqKs a b
  | .obj c a, .obj c' b => decide (c = c') && beqFs a b
  | .scr a, .scr b => decide (a = b)
  | .cls a, .cls b => decide (a = b)
  | .ty a, .ty b => decide (a = b)
  | _, _ => false
def beqDs : List D → List D → Bool
  | [], [] => true
  | a :: r, b :: t => beqD a b && beqDs r t
  | _, _ => false
def beqKs : List (Ky × D) → List (Ky × D) → Bool
  | [], [] => true
  | (k, a) :: r, (l, b) :: t => decide (k = l) && (beqD a b && beqKs r t)
  | _, _ => false
def beqFs : List (Str × D) → List (Str × D) → Bool
  | [], [] => true
  | (k, a) :: r, (l, b) :: t => decide (k = l) && (beqD a b && beqFs r t)
  | _, _ => false
end
mutual
theorem beqD_eq : ∀ {a b : D}, beqD a b = true → a = b
  | .non, b, h => by cases b <;> simp only [beqD] at h <;> first | rfl | cases h
  | .bl x, b, h => by cases b <;> simp only [beqD] at h <;> first | (rw [eq_of_beq h]; done) | cases h
  | .int x, b, h => by cases b <;> simp only [beqD] at h <;> first | (rw [of_decide_eq_true h]; done) | cases h
  | .str x, b, h => by cases b <;> simp only [beqD] at h <;> first | (rw [of_decide_eq_true h]; done) | cases h
  | .tup x, b, h => by cases b <;> simp only [beqD] at h <;> first | (rw [beqDs_eq h]; done) | cases h
  | .lst x, b, h => by cases b <;> simp only [beqD] at h <;> first | (rw [beqDs_eq h]; done) | cases h
  | .dic x, b, h => by cases b <;> simp only [beqD] at h <;> first | (rw [beqKs_eq h]; done) | cases h
  | .obj c x, b, h => by cases b <;> simp only [beqD, Bool.and_eq_true] at h <;> first | (rw [of_decide_eq_true h.1, beqFs_eq h.2]; done) | cases h
  | .scr x, b, h => by cases b <;> simp only [beqD] at h <;> first | (rw [of_decide_eq_true h]; done) | cases h
  | .cls x, b, h => by cases b <;> simp only [beqD] at h <;> first | (rw [of_decide_eq_true h]; done) | cases h
  | .ty x, b, h => by cases b <;> simp only [beqD] at h <;> first | (rw [of_decide_eq_true h]; done) | cases h
theorem beqDs_eq : ∀ {a b : List D}, beqDs a b = true → a = b
  | [], b, h => by cases b <;> simp only [beqDs] at h <;> first | rfl | cases h
  | x :: r, b, h => by
    cases b with
    | nil => simp only [beqDs] at h; cases h
    | cons y t =>
      simp only [beqDs, Bool.and_eq_true] at h
      rw [beqD_eq h.1, beqDs_eq h.2]
theorem beqKs_eq : ∀ {a b : List (Ky × D)}, beqKs a b = true → a = b
  | [], b, h => by cases b <;> simp only [beqKs] at h <;> first | rfl | cases h
  | (k, x) :: r, b, h => by
    cases b with
    | nil => simp only [beqKs] at h; cases h
    | cons y t =>
      obtain ⟨l, y⟩ := y
      simp only [beqKs, Bool.and_eq_true] at h
      rw [of_decide_eq_true h.1, beqD_eq h.2.1, beqKs_eq h.2.2]
theorem beqFs_eq : ∀ {a b : List (Str × D)}, beqFs a b = true → a = b
  | [], b, h => by cases b <;> simp only [beqFs] at h <;> first | rfl | cases h
  | (k, x) :: r, b, h => by
    cases b with
    | nil => simp only [beqFs] at h; cases h
    | cons y t =>
      obtain ⟨l, y⟩ := y
      simp only [beqFs, Bool.and_eq_true] at h
      rw [of_decide_eq_true h.1, beqD_eq h.2.1, beqFs_eq h.2.2]
end
mutual
theorem beqD_refl : ∀ a : D, beqD a a = true
  | .non => by simp only [beqD]
  | .bl x => by simp [beqD]
  | .int x => by simp [beqD]
  | .str x => by simp [beqD]
  | .tup x => by simp only [beqD]; exact beqDs_refl x
  | .lst x => by simp only [beqD]; exact beqDs_refl x
  | .dic x => by simp only [beqD]; exact beqKs_refl x
  | .obj c x => by simp only [beqD, beqFs_refl x]; simp
  | .scr x => by simp [beqD]
  | .cls x => by simp [beqD]
  | .ty x => by simp [beqD]
theorem beqDs_refl : ∀ a : List D, beqDs a a = true
  | [] => by simp only [beqDs]
  | x :: r => by simp only [beqDs, beqD_refl x, beqDs_refl r]; rfl
theorem beqKs_refl : ∀ a : List (Ky × D), beqKs a a = true
  | [] => by simp only [beqKs]
  | (k, x) :: r => by simp only [beqKs, beqD_refl x, beqKs_refl r]; simp
theorem beqFs_refl : ∀ a : List (Str × D), beqFs a a = true
  | [] => by simp only [beqFs]
  | (k, x) :: r => by simp only [beqFs, beqD_refl x, beqFs_refl r]; simp
end
abbrev Bs := List (Nat × D)
abbrev FI := En → Option (List D × Bs × En)
def JOk (K : PySem.W.Frag) (x : Fx) (σ : L2.St) (Hs0 : Hp) (items : List D) (bs : Bs) (J : It) : Prop :=
  ∀ (i : Nat) (env : En) (σ2 : L2.St) (Hs H : Hp), IV K x env σ2 Hs H → Same Hs0 Hs → (∀ b ∈ bs, σ2[b.1]? = σ[b.1]? ∧ ∃ k, env[b.1]? = some (some (k, b.2))) →
    (∀ d, items[i]? = some d → J.go i H ∧ ∀ v H', J.yld i H v H' → ∃ Hs', IV K x env σ2 Hs' H' ∧ Same Hs Hs' ∧ Rp K Hs' d v ∧ Same H H' ∧ ∀ a o, H a = some o → Hs' a = Hs a) ∧ (items.length ≤ i → J.stop i H)
def rdI (K : PySem.W.Frag) (f : FI) : TI := fun σ H R => ∃ x env Hs items bs env', IV K x env σ Hs H ∧ f env = some (items, bs, env') ∧ ∀ J H' Hs', IV K x env' σ Hs' H' → Same Hs Hs' → JOk K x σ Hs' items bs J → R J H'
abbrev DI (X : Cx) (tg iter : Expr) (f : FI) : Prop := PI X tg iter (rdI X.K f)
section
variable {X : Cx} {K : PySem.W.Frag}
theorem impI {tg iter : Expr} {t u : TI} (h : PI X tg iter t) (k : ∀ σ H R, u σ H R → t σ H R) : PI X tg iter u := ⟨fun pins s σ H R I q => h.run pins s σ H R I (k σ H R q)⟩
def bOf (o : Ov) (d : D) : Bs := match o with
  | .d _ => []
  | .s i => [(i, d)]
/-- a list, a tuple -/
def iL (fo : FO) : FI := fun env => (fo env).bind fun p => match fetch p.2 p.1 with
  | some (.lst ds) => some (ds, bOf p.1 (.lst ds), p.2)
  | _ => none
def iT (fo : FO) : FI := fun env => (fo env).bind fun p => match fetch p.2 p.1 with
  | some (.tup ds) => some (ds, bOf p.1 (.tup ds), p.2)
  | _ => none
def iS (fo : FO) : FI := fun env => (fo env).bind fun p => match fetch p.2 p.1 with
  | some (.str x) => some (x.map fun c => .str [c], [], p.2)
  | _ => none
def rng (lo : Int) : Nat → List D
  | 0 => []
  | n + 1 => .int lo :: rng (lo + 1) n
theorem rng_get : ∀ (lo : Int) (n i : Nat), (rng lo n)[i]? = if i < n then some (.int (lo + i)) else none
  | lo, 0, i => by simp [rng]
  | lo, n + 1, 0 => by simp [rng]
  | lo, n + 1, i + 1 => by
    simp only [rng, List.getElem?_cons_succ, rng_get (lo + 1) n i]
    by_cases h : i < n
    · rw [if_pos h, if_pos (by omega)]
      congr 2
      omega
    · rw [if_neg h, if_neg (by omega)]
theorem rng_length (lo : Int) : ∀ n : Nat, (rng lo n).length = n
  | 0 => rfl
  | n + 1 => by simp only [rng, List.length_cons, rng_length (lo + 1) n]
def iR1 (fa : FE) : FI := fun env => (fa env).bind fun p => match p.1 with
  | .int n => if -1000000000 ≤ n ∧ n < 1000000000 then some (rng 0 n.toNat, [], p.2) else none
  | _ => none
def asI : D → Option Int
  | .int i => some i
  | _ => none
theorem asI_eq : ∀ {d : D} {i : Int}, asI d = some i → d = .int i
  | .int i, _, h => by cases h; rfl
def iR2 (fa fb : FE) : FI := fun env => (fa env).bind fun p => (asI p.1).bind fun a => (fb p.2).bind fun q => (asI q.1).bind fun b => if -1000000000 ≤ a ∧ a < 1000000000 ∧ -1000000000 ≤ b ∧ b < 1000000000 then some (rng a (b - a).toNat, [], q.2) else none
/-- what an operand is at a later turn -/
theorem later {x : Fx} {env env2 : En} {σ σ2 : L2.St} {Hs Hs2 H2 : Hp} {o : Ov} {d : D} {v : V} (I2 : IV K x env2 σ2 Hs2 H2) (s : Same Hs Hs2) (r : OvR K σ Hs v o) (h : fetch env o = some d) (hb : ∀ b ∈ bOf o d, σ2[b.1]? = σ[b.1]? ∧ ∃ k, env2[b.1]? = some (some (k, b.2))) : Pk K Hs2 H2 d v := by
  cases o with
  | d e =>
    cases h
    exact (Rp.mono s _ r).pk I2.ex
  | s i =>
    obtain ⟨e1, k, e2⟩ := hb (i, d) (by simp [bOf])
    have r : σ[i]? = some (some v) := r
    obtain ⟨w, a, p⟩ := I2.slot e2
    have e1 : σ2[i]? = σ[i]? := e1
    rw [e1, r] at a
    cases a
    exact p
theorem di_list {tg l : Expr} {fo : FO} (h : DO X l fo) : DI X tg l (iL fo) := impI (pi_list h) fun σ H R h => by
  obtain ⟨x, env, Hs, items, bs, env', I, hf, k⟩ := h
  obtain ⟨⟨o, e1⟩, h1, hf⟩ := Option.bind_eq_some_iff.mp hf
  refine ⟨x, env, Hs, o, e1, I, h1, fun v H' Hs' I' s' o' => ?_⟩
  have hf : (match fetch e1 o with
    | some (.lst ds) => some (ds, bOf o (.lst ds), e1)
    | _ => none) = some (items, bs, env') := hf
  split at hf
  · rename_i ds hd
    cases hf
    obtain ⟨a, vs, rfl, g2, g3⟩ := I'.pk o' hd
    refine ⟨a, rfl, ⟨vs, SqL.of g2⟩, k _ H' Hs' I' s' fun i env2 σ2 Hs2 H2 I2 s2 hb => ?_⟩
    obtain ⟨a', ws, ea, q2, q3⟩ := later I2 s2 o' hd hb
    cases ea
    refine ⟨fun d hd' => ?_, fun hl => ⟨ws, SqL.of q2, by rw [q3.length]; exact hl⟩⟩
    obtain ⟨w, hw, rw'⟩ := q3.get hd'
    refine ⟨⟨ws, w, SqL.of q2, hw⟩, fun v H3 hy => ?_⟩
    obtain ⟨rfl, hy⟩ := hy
    have e := hy ws (SqL.of q2)
    rw [hw] at e
    cases e
    exact ⟨Hs2, I2, Same.refl _, rw', Same.refl _, fun _ _ _ => rfl⟩
  · cases hf
theorem di_tup {tg l : Expr} {fo : FO} (h : DO X l fo) : DI X tg l (iT fo) := impI (pi_tup h) fun σ H R h => by
  obtain ⟨x, env, Hs, items, bs, env', I, hf, k⟩ := h
  obtain ⟨⟨o, e1⟩, h1, hf⟩ := Option.bind_eq_some_iff.mp hf
  refine ⟨x, env, Hs, o, e1, I, h1, fun v H' Hs' I' s' o' => ?_⟩
  have hf : (match fetch e1 o with
    | some (.tup ds) => some (ds, bOf o (.tup ds), e1)
    | _ => none) = some (items, bs, env') := hf
  split at hf
  · rename_i ds hd
    cases hf
    obtain ⟨a, vs, rfl, g2, g3⟩ := I'.pk o' hd
    refine ⟨a, rfl, ⟨vs, g2⟩, k _ H' Hs' I' s' fun i env2 σ2 Hs2 H2 I2 s2 hb => ?_⟩
    obtain ⟨a', ws, ea, q2, q3⟩ := later I2 s2 o' hd hb
    cases ea
    refine ⟨fun d hd' => ?_, fun hl => ⟨ws, q2, by rw [q3.length]; exact hl⟩⟩
    obtain ⟨w, hw, rw'⟩ := q3.get hd'
    refine ⟨⟨ws, w, q2, hw⟩, fun v H3 hy => ?_⟩
    obtain ⟨rfl, hy⟩ := hy
    have e := hy ws q2
    rw [hw] at e
    cases e
    exact ⟨Hs2, I2, Same.refl _, rw', Same.refl _, fun _ _ _ => rfl⟩
  · cases hf
theorem di_str {tg l : Expr} {fo : FO} (h : DO X l fo) : DI X tg l (iS fo) := impI (pi_str h) fun σ H R h => by
  obtain ⟨x, env, Hs, items, bs, env', I, hf, k⟩ := h
  obtain ⟨⟨o, e1⟩, h1, hf⟩ := Option.bind_eq_some_iff.mp hf
  refine ⟨x, env, Hs, o, e1, I, h1, fun v H' Hs' I' s' o' => ?_⟩
  have hf : (match fetch e1 o with
    | some (.str y) => some (y.map fun c => .str [c], [], e1)
    | _ => none) = some (items, bs, env') := hf
  split at hf
  · rename_i y hd
    cases hf
    have p : v = .str (S y) := I'.pk o' hd
    subst p
    refine ⟨S y, rfl, k _ H' Hs' I' s' fun i env2 σ2 Hs2 H2 I2 s2 hb => ?_⟩
    have hsz : (S y).cps.size = y.length := by simp [S]
    refine ⟨fun d hd' => ?_, fun hl => ?_⟩
    · rw [List.getElem?_map] at hd'
      obtain ⟨c, hc, hd'⟩ := Option.map_eq_some_iff.mp hd'
      subst hd'
      have hlt : i < y.length := (List.getElem?_eq_some_iff.mp hc).1
      refine ⟨by show i < (S y).cps.size; rw [hsz]; exact hlt, fun v H3 hy => ?_⟩
      obtain ⟨rfl, c', hc', rfl⟩ := hy
      have e : (S y).cps[i]? = y[i]? := by simp [S]
      rw [e, hc] at hc'
      cases hc'
      exact ⟨Hs2, I2, Same.refl _, by simp only [Rp], Same.refl _, fun _ _ _ => rfl⟩
    · show (S y).cps.size ≤ i
      rw [hsz]
      simpa using hl
  · cases hf
theorem da_one {e : Expr} {f : FE} (h : DE X e f) (hs : starEach [e] X.env = (false, eval e X.env) :: starEach [] X.env := by rfl) : DA X [e] (aCons (oE f) aNil) := da_cons (do_of h) da_nil hs
theorem di_range1 {tg a : Expr} {fa : FE} {p pos : Pos} (hm : X.mg "range" = none) (ha : DE X a fa) (hg : Gl X "range" := by rfl) (hs : starEach [a] X.env = [(false, eval a X.env)] := by rfl) : DI X tg (.Call (.Name "range" p) [a] [] pos) (iR1 fa) := impI (pi_range1 hg hm (da_one ha hs) hs) fun σ H R h => by
  obtain ⟨x, env, Hs, items, bs, env', I, hf, k⟩ := h
  obtain ⟨⟨d, e1⟩, h1, hf⟩ := Option.bind_eq_some_iff.mp hf
  cases d <;> try (cases hf; done)
  rename_i n
  have hf : (if -1000000000 ≤ n ∧ n < 1000000000 then some (rng 0 n.toNat, ([] : Bs), e1) else none) = some (items, bs, env') := hf
  split at hf
  · rename_i hn
    cases hf
    refine ⟨x, env, Hs, [.d (.int n)], _, I, by unfold aCons oE aNil; rw [h1]; rfl, fun vs H' Hs' I' s' o' => ?_⟩
    match vs, o' with
    | [v], ⟨r, _⟩ =>
      have r : Rp X.K Hs' (.int n) v := r
      simp only [Rp] at r
      subst r
      refine ⟨n, rfl, by omega, by omega, k _ H' Hs' I' s' fun i env2 σ2 Hs2 H2 I2 s2 hb => ⟨fun d hd' => ?_, fun hl => by rw [rng_length] at hl; exact hl⟩⟩
      rw [rng_get] at hd'
      split at hd'
      · rename_i hi
        cases hd'
        exact ⟨hi, fun v H3 hy => by obtain ⟨rfl, rfl⟩ := hy; exact ⟨Hs2, I2, Same.refl _, by simp only [Rp], Same.refl _, fun _ _ _ => rfl⟩⟩
      · cases hd'
  · cases hf
theorem di_range2 {tg a b : Expr} {fa fb : FE} {p pos : Pos} (hm : X.mg "range" = none) (ha : DE X a fa) (hb : DE X b fb) (hg : Gl X "range" := by rfl) (hs : starEach [a, b] X.env = [(false, eval a X.env), (false, eval b X.env)] := by rfl) (hs2 : starEach [b] X.env = [(false, eval b X.env)] := by rfl) :
    DI X tg (.Call (.Name "range" p) [a, b] [] pos) (iR2 fa fb) := impI (pi_range2 hg hm (da_cons (do_of ha) (da_one hb hs2) (by rw [hs, hs2])) hs hs2) fun σ H R h => by
  obtain ⟨x, env, Hs, items, bs, env', I, hf, k⟩ := h
  obtain ⟨⟨d, e1⟩, h1, hf⟩ := Option.bind_eq_some_iff.mp hf
  obtain ⟨lo, ha, hf⟩ := Option.bind_eq_some_iff.mp hf
  obtain ⟨⟨d', e2⟩, h2, hf⟩ := Option.bind_eq_some_iff.mp hf
  obtain ⟨hi, hb, hf⟩ := Option.bind_eq_some_iff.mp hf
  have ha := asI_eq ha
  have hb := asI_eq hb
  dsimp only at ha hb
  subst ha hb
  split at hf
  · rename_i hn
    cases hf
    have h2' : fb e1 = some (.int hi, e2) := h2
    refine ⟨x, env, Hs, [.d (.int lo), .d (.int hi)], e2, I, by unfold aCons oE aNil; rw [h1]; simp only [Option.map_some, Option.bind_some, h2'], fun vs H' Hs' I' s' o' => ?_⟩
    match vs, o' with
    | [v, w], ⟨r, r2, _⟩ =>
      have r : Rp X.K Hs' (.int lo) v := r
      have r2 : Rp X.K Hs' (.int hi) w := r2
      simp only [Rp] at r r2
      subst r r2
      refine ⟨lo, hi, rfl, ⟨by omega, by omega, by omega, by omega⟩, k _ H' Hs' I' s' fun i env2 σ2 Hs2 H2 I2 s2 hb => ⟨fun d hd' => ?_, fun hl => by rw [rng_length] at hl; exact hl⟩⟩
      rw [rng_get] at hd'
      split at hd'
      · rename_i hi
        cases hd'
        exact ⟨hi, fun v H3 hy => by obtain ⟨rfl, rfl⟩ := hy; exact ⟨Hs2, I2, Same.refl _, by simp only [Rp], Same.refl _, fun _ _ _ => rfl⟩⟩
      · cases hd'
  · cases hf
def chkB (pin : Bool) (env : En) (bs : Bs) : Bool := bs.all fun b => match env[b.1]? with
  | some (some (k, d)) => (!pin || k == .pn) && beqD d b.2
  | _ => false
theorem chkB_get {pin : Bool} {env : En} {bs : Bs} (h : chkB pin env bs = true) {b : Nat × D} (hb : b ∈ bs) : ∃ k, env[b.1]? = some (some (k, b.2)) ∧ (pin = true → k = .pn) := by
  have h1 := List.all_eq_true.mp h b hb
  split at h1
  · rename_i k d hq
    simp only [Bool.and_eq_true, Bool.or_eq_true, Bool.not_eq_true', beq_iff_eq] at h1
    rw [beqD_eq h1.2] at hq
    refine ⟨k, hq, fun e => ?_⟩
    rcases h1.1 with z | z
    · rw [e] at z
      cases z
    · exact z
  · cases h1
def forL (bs : Bs) (pt : FG) (body : FS) : List D → En → Option Out
  | [], env => if chkB true env bs then some (.nx env) else none
  | d :: ds, env => if chkB true env bs then (pt env d).bind fun e1 => (body e1).bind fun o => match o with
    | .nx e => forL bs pt body ds e
    | .ct e => forL bs pt body ds e
    | .bk e => some (.nx e)
    | .rt b z e => some (.rt b z e) else none
def sFor (src : FI) (pt : FG) (body : FS) : FS := fun env => (src env).bind fun p => forL p.2.1 pt body p.1 p.2.2
theorem forL_chk {bs : Bs} {pt : FG} {body : FS} {items : List D} {env : En} {o : Out} (h : forL bs pt body items env = some o) : chkB true env bs = true := by
  cases items with
  | nil =>
    unfold forL at h
    split at h
    · assumption
    · cases h
  | cons d ds =>
    unfold forL at h
    split at h
    · assumption
    · cases h
theorem IV.pinned {x : Fx} {env : En} {σ : L2.St} {Hs H : Hp} {bs : Bs} (I : IV K x env σ Hs H) (h : chkB true env bs = true) : ∀ b ∈ bs, σ[b.1]? = some (some (.ref (x.pa b.1))) ∧ ∃ k, env[b.1]? = some (some (k, b.2)) := fun b hb => by
  obtain ⟨k, e, hk⟩ := chkB_get h hb
  have hk := hk rfl
  subst hk
  obtain ⟨p, a, _, _, _, z⟩ := I.ow b.1 .pn b.2 e (by decide)
  rw [z rfl] at a
  exact ⟨a, .pn, e⟩
theorem ds_for {tg iter : Expr} {body : List Stmt} {src : FI} {pt : FG} {us : List Nat} {F : FS} {pos : Pos} (hp : PassesOwn (model X.prog X.w) X.A X.env X.xe) (hc : X.calm = true) (hi : DI X tg iter src) (hg : DG X tg pt us) (hb : DSs X body F)
    (hs : ∀ x, foldedSetIterable iter X.env x = pure x := by intro _; rfl) : DS X (.For tg iter body [] pos) (sFor src pt F) := impS (ps_for hp hc hi hg hb hs) fun Z σ H h => by
  obtain ⟨y, env, Hs, o, I, hf, k⟩ := h
  obtain ⟨⟨items, bs, e1⟩, h1, hf⟩ := Option.bind_eq_some_iff.mp hf
  have hf : forL bs pt F items e1 = some o := hf
  refine ⟨y, env, Hs, items, bs, e1, I, h1, fun J H' Hs' I' s' jok => ?_⟩
  have pin0 := I'.pinned (forL_chk hf)
  refine ⟨fun i m σ' H'' => m = items.length - i ∧ i ≤ items.length ∧ ∃ env2 Hs2 o, IV X.K y env2 σ' Hs2 H'' ∧ Same Hs' Hs2 ∧ forL bs pt F (items.drop i) env2 = some o ∧ OutE X.K y Hs2 Z o, ⟨items.length, by omega, by omega, e1, Hs', o, I', Same.refl _, by simpa using hf, k.mono s'⟩, fun i m σ' H'' hW => ?_⟩
  obtain ⟨rfl, hle, env2, Hs2, o2, I2, s2, hf2, k2⟩ := hW
  have pin2 := I2.pinned (forL_chk hf2)
  obtain ⟨j1, j2⟩ := jok i env2 σ' Hs2 H'' I2 s2 fun b hb => ⟨by rw [(pin2 b hb).1, (pin0 b hb).1], (pin2 b hb).2⟩
  by_cases hlt : i < items.length
  · have hd : items[i]? = some items[i] := List.getElem?_eq_getElem hlt
    obtain ⟨jg, jy⟩ := j1 items[i] hd
    rw [List.drop_eq_getElem_cons hlt] at hf2
    unfold forL at hf2
    split at hf2
    · obtain ⟨e3, h3, hf2⟩ := Option.bind_eq_some_iff.mp hf2
      obtain ⟨ob, h4, hf2⟩ := Option.bind_eq_some_iff.mp hf2
      refine .inr ⟨jg, fun σ3 H3 => ∃ env3 Hs3 o3, IV X.K y env3 σ3 Hs3 H3 ∧ Same Hs' Hs3 ∧ forL bs pt F (items.drop (i + 1)) env3 = some o3 ∧ OutE X.K y Hs3 Z o3, fun σ3 H3 hN => ⟨items.length - (i + 1), by omega, rfl, hlt, hN⟩, fun v H3 hy => ?_⟩
      obtain ⟨Hs3, I3, s3, r3, _, _⟩ := jy v H3 hy
      refine ⟨y, env2, Hs3, items[i], e3, I3, r3, h3, fun σ4 H4 Hs4 I4 s4 _ => ⟨y, e3, Hs4, ob, I4, h4, ?_⟩⟩
      have s24 : Same Hs2 Hs4 := s3.trans s4
      cases ob with
      | nx e => exact fun σ5 H5 Hs5 I5 s5 => ⟨e, Hs5, o2, I5, s2.trans (s24.trans s5), hf2, k2.mono (s24.trans s5)⟩
      | ct e => exact fun σ5 H5 Hs5 I5 s5 => ⟨e, Hs5, o2, I5, s2.trans (s24.trans s5), hf2, k2.mono (s24.trans s5)⟩
      | bk e =>
        cases hf2
        exact fun σ5 H5 Hs5 I5 s5 => k2 σ5 H5 Hs5 I5 (s24.trans s5)
      | rt b z e =>
        cases hf2
        cases b with
        | true => exact fun p σ5 H5 Hs5 I5 s5 => k2 p σ5 H5 Hs5 I5 (s24.trans s5)
        | false => exact fun v σ5 H5 Hs5 I5 s5 => k2 v σ5 H5 Hs5 I5 (s24.trans s5)
    · cases hf2
  · refine .inl ⟨j2 (by omega), ?_⟩
    rw [List.drop_eq_nil_of_le (by omega)] at hf2
    unfold forL at hf2
    split at hf2
    · cases hf2
      exact k2 σ' H'' Hs2 I2 (Same.refl _)
    · cases hf2
def whL (c : FE) (body : FS) : Nat → En → Option Out
  | 0, _ => none
  | n + 1, env => (c env).bind fun p => match p.1 with
    | .bl false => some (.nx p.2)
    | .bl true => (body p.2).bind fun o => match o with
      | .nx e => whL c body n e
      | .ct e => whL c body n e
      | .bk e => some (.nx e)
      | .rt b z e => some (.rt b z e)
    | _ => none
def sWhile (n : Nat) (c : FE) (body : FS) : FS := fun env => whL c body n env
theorem ds_while (n : Nat) {c : Expr} {body : List Stmt} {fc : FE} {F : FS} {pos : Pos} (hp : PassesOwn (model X.prog X.w) X.A X.env X.xe) (hc : DT X c fc) (hb : DSs X body F) : DS X (.While c body [] pos) (sWhile n fc F) := impS (ps_while hp hc hb) fun Z σ H h => by
  obtain ⟨y, env, Hs, o, I, hf, k⟩ := h
  refine ⟨fun m σ' H' => ∃ env2 Hs2 o, IV X.K y env2 σ' Hs2 H' ∧ whL fc F m env2 = some o ∧ OutE X.K y Hs2 Z o, ⟨n, env, Hs, o, I, hf, k⟩, fun m σ' H' hW => ?_⟩
  obtain ⟨env2, Hs2, o2, I2, hf2, k2⟩ := hW
  cases m with
  | zero => cases hf2
  | succ m =>
    unfold whL at hf2
    obtain ⟨⟨d, e3⟩, h3, hf2⟩ := Option.bind_eq_some_iff.mp hf2
    cases d <;> try (cases hf2; done)
    rename_i b
    refine ⟨y, env2, Hs2, b, e3, I2, h3, fun H3 Hs3 I3 s3 => ?_⟩
    cases b with
    | false =>
      cases hf2
      exact k2 σ' H3 Hs3 I3 s3
    | true =>
      obtain ⟨ob, h4, hf2⟩ := Option.bind_eq_some_iff.mp hf2
      refine ⟨fun σ3 H3 => ∃ env3 Hs3 o3, IV X.K y env3 σ3 Hs3 H3 ∧ whL fc F m env3 = some o3 ∧ OutE X.K y Hs3 Z o3, fun σ4 H4 hN => ⟨m, Nat.lt_succ_self _, hN⟩, y, e3, Hs3, ob, I3, h4, ?_⟩
      cases ob with
      | nx e => exact fun σ5 H5 Hs5 I5 s5 => ⟨e, Hs5, o2, I5, hf2, k2.mono (s3.trans s5)⟩
      | ct e => exact fun σ5 H5 Hs5 I5 s5 => ⟨e, Hs5, o2, I5, hf2, k2.mono (s3.trans s5)⟩
      | bk e =>
        cases hf2
        exact fun σ5 H5 Hs5 I5 s5 => k2 σ5 H5 Hs5 I5 (s3.trans s5)
      | rt b z e =>
        cases hf2
        cases b with
        | true => exact fun p σ5 H5 Hs5 I5 s5 => k2 p σ5 H5 Hs5 I5 (s3.trans s5)
        | false => exact fun v σ5 H5 Hs5 I5 s5 => k2 v σ5 H5 Hs5 I5 (s3.trans s5)
def unpin (i : Nat) (e : En) : Option En := match e[i]? with
  | some (some (.pn, d)) => some (e.set i (some (.ow, d)))
  | _ => none
def sPin (i : Nat) (F : FS) : FS := fun env => match env[i]? with
  | some (some (.ow, d)) => (F (env.set i (some (.pn, d)))).bind fun o => match o with
    | .nx e => (unpin i e).map Out.nx
    | .ct e => (unpin i e).map Out.ct
    | .bk e => (unpin i e).map Out.bk
    | .rt b z e => (unpin i e).map (Out.rt b z)
  | _ => F env
theorem IV.pin {x : Fx} {env : En} {σ : L2.St} {Hs H : Hp} {i : Nat} {d : D} (I : IV K x env σ Hs H) (hi : env[i]? = some (some (.ow, d))) : ∃ p, IV K { x with pa := fun j => if j = i then p else x.pa j } (env.set i (some (.pn, d))) σ Hs H := by
  obtain ⟨p, a, b, c, ho, _⟩ := I.ow i .ow d hi (by decide)
  have g : ∀ {m : Nat} {km : Kd} {dm : D}, (env.set i (some (Kd.pn, d)))[m]? = some (some (km, dm)) → (m = i ∧ km = .pn ∧ dm = d) ∨ (m ≠ i ∧ env[m]? = some (some (km, dm))) := fun {m km dm} hh => by
    rcases get_set hh with ⟨em, h⟩ | ⟨em, h⟩
    · cases h
      exact .inl ⟨em, rfl, rfl⟩
    · exact .inr ⟨em, h⟩
  have g2 : ∀ {m : Nat} {km : Kd} {dm : D}, (env.set i (some (Kd.pn, d)))[m]? = some (some (km, dm)) → km ≠ .sh → ∃ km', km' ≠ .sh ∧ env[m]? = some (some (km', dm)) := fun {m km dm} hh hk => by
    rcases g hh with ⟨e1, e2, e3⟩ | ⟨_, h⟩
    · rw [e1, e3]
      exact ⟨.ow, by decide, hi⟩
    · exact ⟨km, hk, h⟩
  refine ⟨p, by rw [List.length_set, I.len], I.ex, I.fr, I.sep, I.h0, fun j e h1 => ?_, fun j k e h1 h2 => ?_, fun j l kj kl dj dl q hne h1 h2 h3 h4 h5 => ?_⟩
  · rcases g h1 with ⟨_, h, _⟩ | ⟨_, h⟩
    · cases h
    · exact I.sh j e h
  · rcases g h1 with ⟨e1, e2, e3⟩ | ⟨hj, h⟩
    · subst e1 e2 e3
      exact ⟨p, a, b, c, ho, fun _ => by show p = if j = j then p else x.pa j; rw [if_pos rfl]⟩
    · obtain ⟨q, a', b', c', o', z'⟩ := I.ow j k e h h2
      exact ⟨q, a', b', c', o', fun z => by show q = if j = i then p else x.pa j; rw [if_neg hj]; exact z' z⟩
  · obtain ⟨k1, n1, g1⟩ := g2 h1 h2
    obtain ⟨k2, n2, g3⟩ := g2 h3 h4
    exact I.dj j l k1 k2 dj dl q hne g1 n1 g3 n2 h5
theorem IV.unpin {x : Fx} {env env' : En} {σ : L2.St} {Hs H : Hp} {i : Nat} {p : Addr} (I : IV K { x with pa := fun j => if j = i then p else x.pa j } env σ Hs H) (h : Qd.unpin i env = some env') : IV K x env' σ Hs H := by
  unfold Qd.unpin at h
  split at h
  · rename_i d hi
    cases h
    have g : ∀ {m : Nat} {km : Kd} {dm : D}, (env.set i (some (Kd.ow, d)))[m]? = some (some (km, dm)) → (m = i ∧ km = .ow ∧ dm = d) ∨ (m ≠ i ∧ env[m]? = some (some (km, dm))) := fun {m km dm} hh => by
      rcases get_set hh with ⟨em, h⟩ | ⟨em, h⟩
      · cases h
        exact .inl ⟨em, rfl, rfl⟩
      · exact .inr ⟨em, h⟩
    have g2 : ∀ {m : Nat} {km : Kd} {dm : D}, (env.set i (some (Kd.ow, d)))[m]? = some (some (km, dm)) → km ≠ .sh → ∃ km', km' ≠ .sh ∧ env[m]? = some (some (km', dm)) := fun {m km dm} hh hk => by
      rcases g hh with ⟨e1, e2, e3⟩ | ⟨_, h⟩
      · rw [e1, e3]
        exact ⟨.pn, by decide, hi⟩
      · exact ⟨km, hk, h⟩
    refine ⟨by rw [List.length_set, I.len], I.ex, I.fr, I.sep, I.h0, fun j e h1 => ?_, fun j k e h1 h2 => ?_, fun j l kj kl dj dl q hne h1 h2 h3 h4 h5 => ?_⟩
    · rcases g h1 with ⟨_, h, _⟩ | ⟨_, h⟩
      · cases h
      · exact I.sh j e h
    · rcases g h1 with ⟨e1, e2, e3⟩ | ⟨hj, h⟩
      · subst e1 e2 e3
        obtain ⟨q, a', b', c', o', z'⟩ := I.ow j .pn _ hi (by decide)
        exact ⟨q, a', b', c', o', fun z => nomatch z⟩
      · obtain ⟨q, a', b', c', o', z'⟩ := I.ow j k e h h2
        refine ⟨q, a', b', c', o', fun z => ?_⟩
        have := z' z
        have this : q = if j = i then p else x.pa j := this
        rw [if_neg hj] at this
        exact this
    · obtain ⟨k1, n1, g1⟩ := g2 h1 h2
      obtain ⟨k2, n2, g3⟩ := g2 h3 h4
      exact I.dj j l k1 k2 dj dl q hne g1 n1 g3 n2 h5
  · cases h
theorem Apart.unpin {env env' : En} {σ : L2.St} {i : Nat} {p : Addr} (h : Qd.unpin i env = some env') (a : Apart env σ p) : Apart env' σ p := by
  unfold Qd.unpin at h
  split at h
  · rename_i d hi
    cases h
    intro j k e h1 h2
    rcases get_set h1 with ⟨em, h⟩ | ⟨em, h⟩
    · cases h
      rw [em]
      exact a i .pn d hi (by decide)
    · exact a j k e h h2
  · cases h
theorem ds_pin (i : Nat) {st : Stmt} {F : FS} (h : DS X st F) : DS X st (sPin i F) := impS h fun Z σ H h => by
  obtain ⟨y, env, Hs, o, I, hf, k⟩ := h
  unfold sPin at hf
  split at hf
  · rename_i d hi
    obtain ⟨p, I'⟩ := I.pin hi
    obtain ⟨o1, h1, hf⟩ := Option.bind_eq_some_iff.mp hf
    refine ⟨_, _, Hs, o1, I', h1, ?_⟩
    cases o1 with
    | nx e =>
      obtain ⟨e2, h2, hf⟩ := Option.map_eq_some_iff.mp hf
      cases hf
      exact fun σ2 H2 Hs2 I2 s2 => k σ2 H2 Hs2 (I2.unpin h2) s2
    | ct e =>
      obtain ⟨e2, h2, hf⟩ := Option.map_eq_some_iff.mp hf
      cases hf
      exact fun σ2 H2 Hs2 I2 s2 => k σ2 H2 Hs2 (I2.unpin h2) s2
    | bk e =>
      obtain ⟨e2, h2, hf⟩ := Option.map_eq_some_iff.mp hf
      cases hf
      exact fun σ2 H2 Hs2 I2 s2 => k σ2 H2 Hs2 (I2.unpin h2) s2
    | rt b z e =>
      obtain ⟨e2, h2, hf⟩ := Option.map_eq_some_iff.mp hf
      cases hf
      cases b with
      | true => exact fun q σ2 H2 Hs2 I2 s2 ow n m ap => k q σ2 H2 Hs2 (I2.unpin h2) s2 ow n m (ap.unpin h2)
      | false => exact fun v σ2 H2 Hs2 I2 s2 r => k v σ2 H2 Hs2 (I2.unpin h2) s2 r
  · exact ⟨y, env, Hs, o, I, hf, k⟩
end
end Qd
namespace Qd
open PySem PySem.Spec L2
def wipeE (env : En) : List Nat → En
  | [] => env
  | v :: vs => (wipeE env vs).set v none
def rest (env e2 : En) : List Nat → En
  | [] => e2
  | v :: vs => (rest env e2 vs).set v (env[v]?.getD none)
def nonOw (env : En) (vs : List Nat) : Bool := vs.all fun v => match env[v]? with
  | some (some (.sh, _)) => true
  | some none => true
  | none => true
  | _ => false
theorem nonOw_get {env : En} {vs : List Nat} (h : nonOw env vs = true) {v : Nat} (hv : v ∈ vs) {k : Kd} {d : D} (e : env[v]? = some (some (k, d))) : k = .sh := by
  have h1 := List.all_eq_true.mp h v hv
  rw [e] at h1
  cases k with
  | sh => rfl
  | ow => cases h1
  | pn => cases h1
theorem rest_len (env e2 : En) : ∀ vs : List Nat, (rest env e2 vs).length = e2.length
  | [] => rfl
  | v :: vs => by simp only [rest, List.length_set, rest_len env e2 vs]
theorem rest_get {env e2 : En} {j : Nat} {s : Sl} : ∀ {vs : List Nat}, (rest env e2 vs)[j]? = some (some s) → (j ∈ vs ∧ env[j]? = some (some s)) ∨ e2[j]? = some (some s)
  | [], h => .inr h
  | v :: vs, h => by
    rcases get_set h with ⟨e, h⟩ | ⟨e, h⟩
    · left
      subst e
      refine ⟨by simp, ?_⟩
      cases q : env[j]? with
      | none =>
        rw [q] at h
        cases h
      | some o =>
        rw [q] at h
        have h : some s = o := h
        rw [← h]
    · rcases rest_get h with ⟨a, b⟩ | b
      · exact .inl ⟨List.mem_cons_of_mem _ a, b⟩
      · exact .inr b
theorem wipe_get (σ : L2.St) {j : Nat} : ∀ {vs : List Nat}, (wipe σ vs)[j]? = if j ∈ vs then (if j < σ.length then some none else none) else σ[j]?
  | [] => by simp [wipe]
  | v :: vs => by
    unfold wipe
    by_cases e : j = v
    · subst e
      rw [if_pos (by simp)]
      by_cases hl : j < σ.length
      · rw [List.getElem?_set_self (by rw [wipe_length]; exact hl), if_pos hl]
      · rw [List.getElem?_eq_none (by rw [List.length_set, wipe_length]; omega), if_neg hl]
    · rw [List.getElem?_set_ne (Ne.symm e), wipe_get σ]
      by_cases hm : j ∈ vs
      · rw [if_pos hm, if_pos (List.mem_cons_of_mem _ hm)]
      · rw [if_neg hm, if_neg (by simp [e, hm])]
theorem wipe_off {vs : List Nat} {σ σ' : L2.St} (h : Off vs (wipe σ vs) σ') : wipe σ' vs = wipe σ vs := by
  obtain ⟨h1, h2⟩ := h
  rw [wipe_length] at h1
  apply List.ext_getElem?
  intro j
  rw [wipe_get, wipe_get]
  by_cases hm : j ∈ vs
  · rw [if_pos hm, if_pos hm, h1]
  · rw [if_neg hm, if_neg hm, h2 j hm, wipe_get, if_neg hm]
section
variable {X : Cx} {K : PySem.W.Frag} {x : Fx} {env env2 : En} {σ σ2 : L2.St} {Hs Hs2 H H2 : Hp}
theorem IV.drop (v : Nat) (I : IV K x env σ Hs H) : IV K x (env.set v none) (σ.set v none) Hs H := by
  refine ⟨by rw [List.length_set, List.length_set, I.len], I.ex, I.fr, I.sep, I.h0, fun j e h1 => ?_, fun j k e h1 h2 => ?_, fun j l kj kl dj dl q hne h1 h2 h3 h4 h5 => ?_⟩
  · rcases get_set h1 with ⟨rfl, h⟩ | ⟨hj, h⟩
    · cases h
    · rw [List.getElem?_set_ne (Ne.symm hj)]
      exact I.sh j e h
  · rcases get_set h1 with ⟨rfl, h⟩ | ⟨hj, h⟩
    · cases h
    · rw [List.getElem?_set_ne (Ne.symm hj)]
      exact I.ow j k e h h2
  · rcases get_set h1 with ⟨rfl, h⟩ | ⟨hj, h⟩
    · cases h
    · rcases get_set h3 with ⟨rfl, h'⟩ | ⟨hl, h'⟩
      · cases h'
      · rw [List.getElem?_set_ne (Ne.symm hj)] at h5
        rw [List.getElem?_set_ne (Ne.symm hl)]
        exact I.dj j l kj kl dj dl q hne h h2 h' h4 h5
theorem IV.wipe (I : IV K x env σ Hs H) : ∀ vs : List Nat, IV K x (wipeE env vs) (L2.wipe σ vs) Hs H
  | [] => I
  | v :: vs => (IV.wipe I vs).drop v
/-- behind a block: the def's own slots again -/
theorem IV.back {vs : List Nat} (I : IV K x env σ Hs H) (hn : nonOw env vs = true) (I2 : IV K x env2 (L2.wipe σ vs) Hs2 H2) (s : Same Hs Hs2) : IV K x (rest env env2 vs) σ Hs2 H2 := by
  have ow : ∀ {j : Nat} {k : Kd} {d : D}, (rest env env2 vs)[j]? = some (some (k, d)) → k ≠ .sh → env2[j]? = some (some (k, d)) := fun {j k d} h hk => by
    rcases rest_get h with ⟨a, b⟩ | b
    · exact absurd (nonOw_get hn a b) hk
    · exact b
  refine ⟨by rw [rest_len, I2.len, wipe_length], I2.ex, I2.fr, I2.sep, I2.h0, fun j e h1 => ?_, fun j k e h1 h2 => ?_, fun j l kj kl dj dl q hne h1 h2 h3 h4 h5 => ?_⟩
  · rcases rest_get h1 with ⟨a, b⟩ | b
    · obtain ⟨v, hv, r⟩ := I.sh j e b
      exact ⟨v, hv, Rp.mono s _ r⟩
    · obtain ⟨v, hv, r⟩ := I2.sh j e b
      exact ⟨v, (wipe_some hv).1, r⟩
  · obtain ⟨p, a, b, c, o, z⟩ := I2.ow j k e (ow h1 h2) h2
    exact ⟨p, (wipe_some a).1, b, c, o, z⟩
  · have g1 := ow h1 h2
    have g3 := ow h3 h4
    obtain ⟨p, a, _⟩ := I2.ow j kj dj g1 h2
    obtain ⟨p', a', _⟩ := I2.ow l kl dl g3 h4
    have e1 := (wipe_some a).1
    have e2 := (wipe_some a').1
    rw [h5] at e1
    cases e1
    intro z
    rw [e2] at z
    cases z
    exact I2.dj j l kj kl dj dl q hne g1 h2 g3 h4 a a'
/-- an object of one's own, guarded -/
theorem IV.guard {L : Addr} {o : HO} (I : IV K x env σ Hs H) (hL : H L = some o) (hn : Hs L = none) (ap : Apart env σ L) : IV K { x with fm := upd x.fm L o } env σ Hs H := by
  refine ⟨I.len, I.ex, fun b u e => ?_, fun b u e => ?_, I.h0, I.sh, fun j k d h1 h2 => ?_, I.dj⟩
  · by_cases hb : b = L
    · subst hb
      have e : upd x.fm b o b = some u := e
      rw [upd_same] at e
      cases e
      exact hL
    · have e : upd x.fm L o b = some u := e
      rw [upd_ne hb] at e
      exact I.fr b u e
  · have hb : b ≠ L := fun z => by
      subst z
      rw [hn] at e
      cases e
    rcases I.sep b u e with z | z
    · exact .inl z
    · right
      show upd x.fm L o b = none
      rw [upd_ne hb]
      exact z
  · obtain ⟨p, a, b, c, w, z⟩ := I.ow j k d h1 h2
    have hp : p ≠ L := fun e => by
      subst e
      exact ap j k d h1 h2 a
    exact ⟨p, a, b, by show upd x.fm L o p = none; rw [upd_ne hp]; exact c, w, z⟩
theorem IV.unguard {L : Addr} {o : HO} (I : IV K { x with fm := upd x.fm L o } env σ Hs H) (hf : x.fm L = none) (h0 : x.hs L = none) : IV K x env σ Hs H ∧ H L = some o ∧ Hs L = none ∧ Apart env σ L := by
  have hl : H L = some o := I.fr L o (show upd x.fm L o L = some o from upd_same)
  have hn : Hs L = none := by
    cases e : Hs L with
    | none => rfl
    | some u =>
      rcases I.sep L u e with z | z
      · have z : x.hs L = some u := z
        rw [h0] at z
        cases z
      · have z : upd x.fm L o L = none := z
        rw [upd_same] at z
        cases z
  have sub : Same x.fm (upd x.fm L o) := same_new hf
  refine ⟨⟨I.len, I.ex, fun b u e => I.fr b u (sub b u e), fun b u e => ?_, I.h0, I.sh, fun j k d h1 h2 => ?_, I.dj⟩, hl, hn, fun j k d h1 h2 e => ?_⟩
  · rcases I.sep b u e with z | z
    · exact .inl z
    · right
      have z : upd x.fm L o b = none := z
      by_cases hb : b = L
      · rw [hb, upd_same] at z
        cases z
      · rw [upd_ne hb] at z
        exact z
  · obtain ⟨p, a, b, c, w, z⟩ := I.ow j k d h1 h2
    have c : upd x.fm L o p = none := c
    have hp : p ≠ L := fun e => by
      rw [e, upd_same] at c
      cases c
    rw [upd_ne hp] at c
    exact ⟨p, a, b, c, w, z⟩
  · obtain ⟨p, a, b, c, w, z⟩ := I.ow j k d h1 h2
    rw [e] at a
    cases a
    have c : upd x.fm L o L = none := c
    rw [upd_same] at c
    cases c
/-- an object that no one here knows is written -/
theorem IV.other {L : Addr} {o : HO} (I : IV K x env σ Hs H) (hn : Hs L = none) (hf : x.fm L = none) (ap : Apart env σ L) : IV K x env σ Hs (upd H L o) := by
  refine ⟨I.len, same_mut I.ex hn, same_mut I.fr hf, I.sep, I.h0, I.sh, fun j k d h1 h2 => ?_, I.dj⟩
  obtain ⟨p, a, b, c, w, z⟩ := I.ow j k d h1 h2
  have hp : p ≠ L := fun e => by
    subst e
    exact ap j k d h1 h2 a
  exact ⟨p, a, b, c, w.mono (Same.refl _) (upd_ne hp), z⟩
theorem Apart.wipe {p : Addr} (ap : Apart env σ p) : ∀ vs : List Nat, Apart (wipeE env vs) (L2.wipe σ vs) p
  | [] => ap
  | v :: vs => fun j k d h1 h2 => by
    rcases get_set h1 with ⟨e, h⟩ | ⟨e, h⟩
    · cases h
    · show ((L2.wipe σ vs).set v none)[j]? ≠ _
      rw [List.getElem?_set_ne (Ne.symm e)]
      exact Apart.wipe ap vs j k d h h2
theorem Apart.back {vs : List Nat} {p : Addr} (hn : nonOw env vs = true) (ap : Apart env2 (L2.wipe σ vs) p) (I2 : IV K x env2 (L2.wipe σ vs) Hs2 H2) : Apart (rest env env2 vs) σ p := fun j k d h1 h2 e => by
  rcases rest_get h1 with ⟨a, b⟩ | b
  · exact h2 (nonOw_get hn a b)
  · obtain ⟨q, a, _⟩ := I2.ow j k d b h2
    have e1 := (wipe_some a).1
    rw [e] at e1
    cases e1
    exact ap j k d b h2 a
def lcL (bs : Bs) (vs : List Nat) (pt : FG) (c f : FE) : List D → En → List D → Option (List D × En)
  | [], env, acc => if chkB false env bs then some (acc, env) else none
  | d :: ds, env, acc => if chkB false env bs then (pt env d).bind fun e1 => (c e1).bind fun p => match p.1 with
    | .bl true => (f p.2).bind fun q => if acc.length < sizeLine then lcL bs vs pt c f ds (wipeE q.2 vs) (acc ++ [q.1]) else none
    | .bl false => lcL bs vs pt c f ds (wipeE p.2 vs) acc
    | _ => none else none
def eLc (src : FI) (vs : List Nat) (pt : FG) (c f : FE) : FE := fun env => (src env).bind fun p => if nonOw p.2.2 vs && p.2.1.all (fun b => decide (b.1 ∉ vs)) then (lcL p.2.1 vs pt c f p.1 (wipeE p.2.2 vs) []).map fun r => (.lst r.1, rest p.2.2 r.2 vs) else none
theorem lcL_chk {bs : Bs} {vs : List Nat} {pt : FG} {c f : FE} {items : List D} {env : En} {acc : List D} {o : List D × En} (h : lcL bs vs pt c f items env acc = some o) : chkB false env bs = true := by
  cases items with
  | nil =>
    unfold lcL at h
    split at h
    · assumption
    · cases h
  | cons d ds =>
    unfold lcL at h
    split at h
    · assumption
    · cases h
theorem lcRun {src : FI} {vs : List Nat} {pt : FG} {c f : FE} {Q : VK} (h : rdF K (eLc src vs pt c f) σ H Q) : tLc (rdI K src) (rdG K pt vs) (rdT K c) (rd K f) vs σ H Q := by
  obtain ⟨y, env, Hs, d, env', I, hf, k⟩ := h
  obtain ⟨⟨items, bs, e1⟩, h1, hf⟩ := Option.bind_eq_some_iff.mp hf
  split at hf
  · rename_i hck
    simp only [Bool.and_eq_true] at hck
    obtain ⟨hno, hbs⟩ := hck
    have hno : nonOw e1 vs = true := hno
    obtain ⟨⟨rs, er⟩, hl, hf⟩ := Option.map_eq_some_iff.mp hf
    cases hf
    have hl : lcL bs vs pt c f items (wipeE e1 vs) [] = some (rs, er) := hl
    refine ⟨y, env, Hs, items, bs, e1, I, h1, fun J H' Hs' I' s' jok L hL => ?_⟩
    have hfm := I'.fm_none hL
    have hh0 : y.hs L = none := by
      cases e : y.hs L with
      | none => rfl
      | some u =>
        rw [I'.ex _ _ (I'.h0 _ _ e)] at hL
        cases hL
    refine ⟨fun i m H2 => m = items.length - i ∧ i ≤ items.length ∧ ∃ env2 Hs2 acc av, IV K y env2 (wipe σ vs) Hs2 H2 ∧ Same Hs' Hs2 ∧ H2 L = some (.lst av) ∧ Rps K Hs2 acc av ∧ Hs2 L = none ∧ Apart env2 (wipe σ vs) L ∧ lcL bs vs pt c f (items.drop i) env2 acc = some (rs, er),
      ⟨items.length, by omega, by omega, wipeE e1 vs, Hs', [], [], (I'.new hL).wipe vs, Same.refl _, upd_same, by simp only [Rps], I'.hs_none hL, (I'.apart hL).wipe vs, by simpa using hl⟩, fun i m H2 hW => ?_⟩
    obtain ⟨rfl, hle, env2, Hs2, acc, av, I2, s2, hav, ra, hLs, ap, hl2⟩ := hW
    have chk := lcL_chk hl2
    obtain ⟨j1, j2⟩ := jok i env2 (wipe σ vs) Hs2 H2 I2 s2 fun b hb => by
      obtain ⟨kk, e, _⟩ := chkB_get chk hb
      refine ⟨?_, kk, e⟩
      have hnv : b.1 ∉ vs := of_decide_eq_true (List.all_eq_true.mp hbs b hb)
      rw [wipe_get, if_neg hnv]
    by_cases hlt : i < items.length
    · have hd : items[i]? = some items[i] := List.getElem?_eq_getElem hlt
      obtain ⟨jg, jy⟩ := j1 items[i] hd
      rw [List.drop_eq_getElem_cons hlt] at hl2
      unfold lcL at hl2
      rw [if_pos chk] at hl2
      · obtain ⟨e3, h3, hl2⟩ := Option.bind_eq_some_iff.mp hl2
        obtain ⟨⟨cb, e4⟩, h4, hl2⟩ := Option.bind_eq_some_iff.mp hl2
        refine .inr ⟨jg, fun H3 => ∃ env3 Hs3 acc av, IV K y env3 (wipe σ vs) Hs3 H3 ∧ Same Hs' Hs3 ∧ H3 L = some (.lst av) ∧ Rps K Hs3 acc av ∧ Hs3 L = none ∧ Apart env3 (wipe σ vs) L ∧ lcL bs vs pt c f (items.drop (i + 1)) env3 acc = some (rs, er), fun H3 hN => ⟨items.length - (i + 1), by omega, rfl, hlt, hN⟩, fun v H3 hy => ?_⟩
        obtain ⟨Hs3, I3, s3, r3, sH, same3⟩ := jy v H3 hy
        have hav3 := sH _ _ hav
        have hLs3 : Hs3 L = none := (same3 L _ hav).trans hLs
        have Ig := I3.guard hav3 hLs3 ap
        refine ⟨_, env2, Hs3, items[i], e3, Ig, r3, h3, fun σ4 H4 Hs4 I4 s4 off => ⟨wipe_off off, ?_⟩⟩
        cases cb <;> try (cases hl2; done)
        rename_i b
        refine ⟨_, e3, Hs4, b, e4, I4, h4, fun H5 Hs5 I5 s5 => ?_⟩
        cases b with
        | true =>
          obtain ⟨⟨z, e6⟩, h6, hl2⟩ := Option.bind_eq_some_iff.mp hl2
          split at hl2
          · rename_i hz
            refine ⟨_, e4, Hs5, z, e6, I5, h6, fun w H6 Hs6 I6 s6 r6 => ?_⟩
            obtain ⟨Iu, hL6, hLs6, ap6⟩ := I6.unguard hfm hh0
            have s26 : Same Hs2 Hs6 := s3.trans (s4.trans (s5.trans s6))
            refine ⟨av, hL6, by rw [ra.length]; exact hz, wipeE e6 vs, Hs6, acc ++ [z], av ++ [w], ?_, s2.trans s26, upd_same, (Rps.mono s26 _ ra).append (by simp only [Rps]; exact ⟨w, [], rfl, r6, rfl⟩), hLs6, ?_, hl2⟩
            · rw [← wipe_off off]
              exact (Iu.other hLs6 hfm ap6).wipe vs
            · rw [← wipe_off off]
              exact ap6.wipe vs
          · cases hl2
        | false =>
          obtain ⟨Iu, hL5, hLs5, ap5⟩ := I5.unguard hfm hh0
          have s25 : Same Hs2 Hs5 := s3.trans (s4.trans s5)
          refine ⟨wipeE e4 vs, Hs5, acc, av, ?_, s2.trans s25, hL5, Rps.mono s25 _ ra, hLs5, ?_, hl2⟩
          · rw [← wipe_off off]
            exact Iu.wipe vs
          · rw [← wipe_off off]
            exact ap5.wipe vs
    · refine .inl ⟨j2 (by omega), ?_⟩
      rw [List.drop_eq_nil_of_le (by omega)] at hl2
      unfold lcL at hl2
      rw [if_pos chk] at hl2
      cases hl2
      exact k L H2 Hs2 (I'.back hno I2 s2) (s'.trans s2) ⟨av, hav, ra⟩ hLs hfm (ap.back hno I2)
  · cases hf
end
end Qd
namespace Qd
open PySem PySem.Spec L2
section
variable {X : Cx} {K : PySem.W.Frag}
theorem dts_nil : PTs X [] (rdT X.K (eK (.bl true))) := ⟨fun pins s σ H Q I h => pts_nil.run pins s σ H Q I (by
  obtain ⟨x, env, Hs, b, env', I, hf, k⟩ := h
  cases hf
  exact k H Hs I (Same.refl _))⟩
theorem dts_one {c : Expr} {f : FE} (h : DT X c f) : PTs X [c] (rdT X.K f) := pts_one h
section
variable {elt tg iter : Expr} {ifs : List Expr} {scope : Scope} {own : List (Str × Nat)} {pos : Pos} {src : FI} {pt : FG} {c f : FE}
theorem df_lc (own : List (Str × Nat)) (hc : X.calm = true) (hN : X.N.Nodup) (hi : DI X tg iter src) (ok : BlkOk X.N X.env.scope scope own)
    (hg : ∀ (s : Shared) (H : Hp) (C : Addr) (cl : List (Str × Addr)) (fp : List Addr), DG (X.blk s H scope (compEnvC scope cl C X.env) fp) tg pt (own.map (·.2))) (ht : ∀ (s : Shared) (H : Hp) (C : Addr) (cl : List (Str × Addr)) (fp : List Addr), PTs (X.blk s H scope (compEnvC scope cl C X.env) fp) ifs (rdT X.K c))
    (he : ∀ (s : Shared) (H : Hp) (C : Addr) (cl : List (Str × Addr)) (fp : List Addr), DE (X.blk s H scope (compEnvC scope cl C X.env) fp) elt f) (hs : ∀ x, foldedSetIterable iter X.env x = pure x := by intro _; rfl) :
    DF X (.ListComp elt [⟨tg, iter, ifs, 0⟩] scope pos) (eLc src (own.map (·.2)) pt c f) := imp (pe_lc hc hN hi ok hg ht he hs) fun _ _ _ h => lcRun h
/-- y = [..] on one line -/
theorem ds_ownLc (i : Nat) (own : List (Str × Nat)) {y : Str} {py spos : Pos} (hc : X.calm = true) (hN : X.N.Nodup) (hi : DI X tg iter src) (ok : BlkOk X.N X.env.scope scope own)
    (hg : ∀ (s : Shared) (H : Hp) (C : Addr) (cl : List (Str × Addr)) (fp : List Addr), DG (X.blk s H scope (compEnvC scope cl C X.env) fp) tg pt (own.map (·.2))) (ht : ∀ (s : Shared) (H : Hp) (C : Addr) (cl : List (Str × Addr)) (fp : List Addr), PTs (X.blk s H scope (compEnvC scope cl C X.env) fp) ifs (rdT X.K c))
    (he : ∀ (s : Shared) (H : Hp) (C : Addr) (cl : List (Str × Addr)) (fp : List Addr), DE (X.blk s H scope (compEnvC scope cl C X.env) fp) elt f) (hy : X.N[i]? = some y := by rfl) (hyl : X.env.scope.names.lookup y = some .local := by rfl)
    (hsw : swapsWith (.ListComp elt [⟨tg, iter, ifs, 0⟩] scope pos) (some (.Name y py)) spos.line X.env = pure true := by exact sw_true rfl rfl rfl (by decide +kernel)) (hs : ∀ x, foldedSetIterable iter X.env x = pure x := by intro _; rfl) :
    DS X (.Assign [.Name y py] (.ListComp elt [⟨tg, iter, ifs, 0⟩] scope pos) spos) (sOw i (eLc src (own.map (·.2)) pt c f)) := impS (ps_setLc hc hN hy hyl hsw hi ok hg ht he hs) fun Z σ H h => by
  obtain ⟨x, env, Hs, o, I, hf, k⟩ := h
  obtain ⟨⟨d, e1⟩, h1, hf⟩ := Option.bind_eq_some_iff.mp hf
  split at hf
  · rename_i ho
    cases hf
    exact lcRun ⟨x, env, Hs, d, e1, I, h1, fun p H' Hs' I' s' ow n m ap => k _ H' Hs' (I'.setOw (by rw [← I'.len]; exact okSet_lt ho) ow n m ap) s'⟩
  · cases hf
theorem ds_setLc (i : Nat) (own : List (Str × Nat)) {y : Str} {py spos : Pos} (hc : X.calm = true) (hN : X.N.Nodup) (hi : DI X tg iter src) (ok : BlkOk X.N X.env.scope scope own)
    (hg : ∀ (s : Shared) (H : Hp) (C : Addr) (cl : List (Str × Addr)) (fp : List Addr), DG (X.blk s H scope (compEnvC scope cl C X.env) fp) tg pt (own.map (·.2))) (ht : ∀ (s : Shared) (H : Hp) (C : Addr) (cl : List (Str × Addr)) (fp : List Addr), PTs (X.blk s H scope (compEnvC scope cl C X.env) fp) ifs (rdT X.K c))
    (he : ∀ (s : Shared) (H : Hp) (C : Addr) (cl : List (Str × Addr)) (fp : List Addr), DE (X.blk s H scope (compEnvC scope cl C X.env) fp) elt f) (hy : X.N[i]? = some y := by rfl) (hyl : X.env.scope.names.lookup y = some .local := by rfl)
    (hsw : swapsWith (.ListComp elt [⟨tg, iter, ifs, 0⟩] scope pos) (some (.Name y py)) spos.line X.env = pure true := by exact sw_true rfl rfl rfl (by decide +kernel)) (hs : ∀ x, foldedSetIterable iter X.env x = pure x := by intro _; rfl) :
    DS X (.Assign [.Name y py] (.ListComp elt [⟨tg, iter, ifs, 0⟩] scope pos) spos) (sG (eLc src (own.map (·.2)) pt c f) (gN i)) := impS (ps_setLc hc hN hy hyl hsw hi ok hg ht he hs) fun Z σ H h => by
  obtain ⟨x, env, Hs, o, I, hf, k⟩ := h
  obtain ⟨⟨d, e1⟩, h1, hf⟩ := Option.bind_eq_some_iff.mp hf
  obtain ⟨e2, h2, hf⟩ := Option.map_eq_some_iff.mp hf
  cases hf
  unfold gN at h2
  split at h2
  · rename_i ho
    cases h2
    refine lcRun ⟨x, env, Hs, d, e1, I, h1, fun p H' Hs' I' s' ow n m ap => ?_⟩
    obtain ⟨G, I2, s2, r⟩ := I'.freeze ow n m ap
    exact k _ H' G (I2.setSh (by rw [← I2.len]; exact okSet_lt ho) r) (s'.trans s2)
  · cases h2
end
def putD (kvs : List (Ky × D)) (k : Ky) (v : D) : List (Ky × D) := if (kvs.any fun kv => decide (kv.1 = k)) = true then kvs.map (fun kv => if kv.1 = k then (kv.1, v) else kv) else kvs ++ [(k, v)]
def dropD (kvs : List (Ky × D)) (k : Ky) : List (Ky × D) := kvs.filter fun kv => decide (kv.1 ≠ k)
theorem RpK.any {H : Hp} {k : Ky} : ∀ {kvs : List (Ky × D)} {ks : List (Key × V)}, RpK K H kvs ks → (ks.any fun kv => decide (kv.1 = k.key)) = kvs.any fun kv => decide (kv.1 = k)
  | [], _, r => by
    simp only [RpK] at r
    subst r
    rfl
  | (k', d) :: kvs, _, r => by
    simp only [RpK] at r
    obtain ⟨w, r', rfl, h1, h2⟩ := r
    simp only [List.any_cons, RpK.any h2]
    congr 1
    by_cases e : k' = k
    · rw [decide_eq_true e, e, decide_eq_true rfl]
    · rw [decide_eq_false e, decide_eq_false fun z => e (Ky.key_inj z)]
theorem RpK.mapPut {H : Hp} {k : Ky} {z : D} {w : V} (rw' : Rp K H z w) : ∀ {kvs : List (Ky × D)} {ks : List (Key × V)}, RpK K H kvs ks → RpK K H (kvs.map fun kv => if kv.1 = k then (kv.1, z) else kv) (ks.map fun kv => if kv.1 = k.key then (kv.1, w) else kv)
  | [], _, r => by
    simp only [RpK] at r
    subst r
    simp only [List.map_nil, RpK]
  | (k', d) :: kvs, _, r => by
    simp only [RpK] at r
    obtain ⟨u, r', rfl, h1, h2⟩ := r
    simp only [List.map_cons]
    by_cases e : k' = k
    · rw [if_pos e, if_pos (by rw [e])]
      simp only [RpK]
      exact ⟨w, _, rfl, rw', RpK.mapPut rw' h2⟩
    · rw [if_neg e, if_neg fun z => e (Ky.key_inj z)]
      simp only [RpK]
      exact ⟨u, _, rfl, h1, RpK.mapPut rw' h2⟩
theorem RpK.append {H : Hp} : ∀ {kvs more : List (Ky × D)} {ks ms : List (Key × V)}, RpK K H kvs ks → RpK K H more ms → RpK K H (kvs ++ more) (ks ++ ms)
  | [], _, _, _, r, s => by
    simp only [RpK] at r
    subst r
    exact s
  | (k', d) :: kvs, _, _, _, r, s => by
    simp only [RpK] at r
    obtain ⟨u, r', rfl, h1, h2⟩ := r
    simp only [List.cons_append, RpK]
    exact ⟨u, _, rfl, h1, RpK.append h2 s⟩
theorem RpK.put {H : Hp} {kvs : List (Ky × D)} {ks : List (Key × V)} {k : Ky} {z : D} {w : V} (r : RpK K H kvs ks) (rw' : Rp K H z w) : RpK K H (putD kvs k z) (putK ks k.key w) := by
  unfold putD putK
  rw [r.any]
  split
  · exact r.mapPut rw'
  · refine r.append ?_
    simp only [RpK]
    exact ⟨w, [], rfl, rw', rfl⟩
theorem RpK.drop {H : Hp} {k : Ky} : ∀ {kvs : List (Ky × D)} {ks : List (Key × V)}, RpK K H kvs ks → RpK K H (dropD kvs k) (dropK ks k.key)
  | [], _, r => by
    simp only [RpK] at r
    subst r
    simp only [dropD, dropK, List.filter_nil, RpK]
  | (k', d) :: kvs, _, r => by
    simp only [RpK] at r
    obtain ⟨u, r', rfl, h1, h2⟩ := r
    have ih := RpK.drop (k := k) h2
    unfold dropD dropK at ih ⊢
    by_cases e : k' = k
    · rw [List.filter_cons_of_neg (by simp [e]), List.filter_cons_of_neg (by simp [e])]
      exact ih
    · rw [List.filter_cons_of_pos (by simp [e]), List.filter_cons_of_pos (by simp; exact fun z => e (Ky.key_inj z))]
      simp only [RpK]
      exact ⟨u, _, rfl, h1, ih⟩
def dcL (bs : Bs) (vs : List Nat) (pt : FG) (c fk fv : FE) : List D → En → List (Ky × D) → Option (List (Ky × D) × En)
  | [], env, acc => if chkB false env bs then some (acc, env) else none
  | d :: ds, env, acc => if chkB false env bs then (pt env d).bind fun e1 => (c e1).bind fun p => match p.1 with
    | .bl true => (fk p.2).bind fun q => (fv q.2).bind fun r => (kyOf q.1).bind fun k => if acc.length < sizeLine then dcL bs vs pt c fk fv ds (wipeE r.2 vs) (putD acc k r.1) else none
    | .bl false => dcL bs vs pt c fk fv ds (wipeE p.2 vs) acc
    | _ => none else none
def eDc (src : FI) (vs : List Nat) (pt : FG) (c fk fv : FE) : FE := fun env => (src env).bind fun p => if nonOw p.2.2 vs && p.2.1.all (fun b => decide (b.1 ∉ vs)) then (dcL p.2.1 vs pt c fk fv p.1 (wipeE p.2.2 vs) []).map fun r => (.dic r.1, rest p.2.2 r.2 vs) else none
theorem dcL_chk {bs : Bs} {vs : List Nat} {pt : FG} {c fk fv : FE} {items : List D} {env : En} {acc : List (Ky × D)} {o : List (Ky × D) × En} (h : dcL bs vs pt c fk fv items env acc = some o) : chkB false env bs = true := by
  cases items with
  | nil =>
    unfold dcL at h
    split at h
    · assumption
    · cases h
  | cons d ds =>
    unfold dcL at h
    split at h
    · assumption
    · cases h
theorem kyOf_rp {H : Hp} {d : D} {v : V} {k : Ky} (h : kyOf d = some k) (p : Rp K H d v) : v = kV k.key := by
  cases d <;> first | (simp only [kyOf] at h; cases h; done) | skip
  · cases h
    simp only [Rp] at p
    exact p
  · cases h
    simp only [Rp] at p
    exact p
theorem dcRun {σ : L2.St} {H : Hp} {src : FI} {vs : List Nat} {pt : FG} {c fk fv : FE} {Q : VK} (h : rdF K (eDc src vs pt c fk fv) σ H Q) : tDc (rdI K src) (rdG K pt vs) (rdT K c) (rd K fk) (rd K fv) vs σ H Q := by
  obtain ⟨y, env, Hs, d, env', I, hf, k⟩ := h
  obtain ⟨⟨items, bs, e1⟩, h1, hf⟩ := Option.bind_eq_some_iff.mp hf
  split at hf
  · rename_i hck
    simp only [Bool.and_eq_true] at hck
    obtain ⟨hno, hbs⟩ := hck
    have hno : nonOw e1 vs = true := hno
    obtain ⟨⟨rs, er⟩, hl, hf⟩ := Option.map_eq_some_iff.mp hf
    cases hf
    have hl : dcL bs vs pt c fk fv items (wipeE e1 vs) [] = some (rs, er) := hl
    refine ⟨y, env, Hs, items, bs, e1, I, h1, fun J H' Hs' I' s' jok L hL => ?_⟩
    have hfm := I'.fm_none hL
    have hh0 : y.hs L = none := by
      cases e : y.hs L with
      | none => rfl
      | some u =>
        rw [I'.ex _ _ (I'.h0 _ _ e)] at hL
        cases hL
    refine ⟨fun i m H2 => m = items.length - i ∧ i ≤ items.length ∧ ∃ env2 Hs2 acc av, IV K y env2 (wipe σ vs) Hs2 H2 ∧ Same Hs' Hs2 ∧ H2 L = some (.dK av) ∧ RpK K Hs2 acc av ∧ Hs2 L = none ∧ Apart env2 (wipe σ vs) L ∧ dcL bs vs pt c fk fv (items.drop i) env2 acc = some (rs, er),
      ⟨items.length, by omega, by omega, wipeE e1 vs, Hs', [], [], (I'.new hL).wipe vs, Same.refl _, upd_same, by simp only [RpK], I'.hs_none hL, (I'.apart hL).wipe vs, by simpa using hl⟩, fun i m H2 hW => ?_⟩
    obtain ⟨rfl, hle, env2, Hs2, acc, av, I2, s2, hav, ra, hLs, ap, hl2⟩ := hW
    have chk := dcL_chk hl2
    obtain ⟨j1, j2⟩ := jok i env2 (wipe σ vs) Hs2 H2 I2 s2 fun b hb => by
      obtain ⟨kk, e, _⟩ := chkB_get chk hb
      refine ⟨?_, kk, e⟩
      have hnv : b.1 ∉ vs := of_decide_eq_true (List.all_eq_true.mp hbs b hb)
      rw [wipe_get, if_neg hnv]
    by_cases hlt : i < items.length
    · have hd : items[i]? = some items[i] := List.getElem?_eq_getElem hlt
      obtain ⟨jg, jy⟩ := j1 items[i] hd
      rw [List.drop_eq_getElem_cons hlt] at hl2
      unfold dcL at hl2
      rw [if_pos chk] at hl2
      obtain ⟨e3, h3, hl2⟩ := Option.bind_eq_some_iff.mp hl2
      obtain ⟨⟨cb, e4⟩, h4, hl2⟩ := Option.bind_eq_some_iff.mp hl2
      refine .inr ⟨jg, fun H3 => ∃ env3 Hs3 acc av, IV K y env3 (wipe σ vs) Hs3 H3 ∧ Same Hs' Hs3 ∧ H3 L = some (.dK av) ∧ RpK K Hs3 acc av ∧ Hs3 L = none ∧ Apart env3 (wipe σ vs) L ∧ dcL bs vs pt c fk fv (items.drop (i + 1)) env3 acc = some (rs, er), fun H3 hN => ⟨items.length - (i + 1), by omega, rfl, hlt, hN⟩, fun v H3 hy => ?_⟩
      obtain ⟨Hs3, I3, s3, r3, sH, same3⟩ := jy v H3 hy
      have hav3 := sH _ _ hav
      have hLs3 : Hs3 L = none := (same3 L _ hav).trans hLs
      have Ig := I3.guard hav3 hLs3 ap
      refine ⟨_, env2, Hs3, items[i], e3, Ig, r3, h3, fun σ4 H4 Hs4 I4 s4 off => ⟨wipe_off off, ?_⟩⟩
      cases cb <;> try (cases hl2; done)
      rename_i b
      refine ⟨_, e3, Hs4, b, e4, I4, h4, fun H5 Hs5 I5 s5 => ?_⟩
      cases b with
      | true =>
        obtain ⟨⟨z, e6⟩, h6, hl2⟩ := Option.bind_eq_some_iff.mp hl2
        obtain ⟨⟨z2, e7⟩, h7, hl2⟩ := Option.bind_eq_some_iff.mp hl2
        obtain ⟨ky, hk, hl2⟩ := Option.bind_eq_some_iff.mp hl2
        split at hl2
        · rename_i hz
          refine ⟨_, e4, Hs5, z, e6, I5, h6, fun w H6 Hs6 I6 s6 r6 => ⟨_, e6, Hs6, z2, e7, I6, h7, fun w2 H7 Hs7 I7 s7 r7 => ?_⟩⟩
          obtain ⟨Iu, hL7, hLs7, ap7⟩ := I7.unguard hfm hh0
          have s27 : Same Hs2 Hs7 := s3.trans (s4.trans (s5.trans (s6.trans s7)))
          refine ⟨av, ky.key, kyOf_rp hk r6, hL7, by rw [ra.length]; exact hz, wipeE e7 vs, Hs7, putD acc ky z2, putK av ky.key w2, ?_, s2.trans s27, upd_same, (RpK.mono s27 _ ra).put r7, hLs7, ?_, hl2⟩
          · rw [← wipe_off off]
            exact (Iu.other hLs7 hfm ap7).wipe vs
          · rw [← wipe_off off]
            exact ap7.wipe vs
        · cases hl2
      | false =>
        obtain ⟨Iu, hL5, hLs5, ap5⟩ := I5.unguard hfm hh0
        have s25 : Same Hs2 Hs5 := s3.trans (s4.trans s5)
        refine ⟨wipeE e4 vs, Hs5, acc, av, ?_, s2.trans s25, hL5, RpK.mono s25 _ ra, hLs5, ?_, hl2⟩
        · rw [← wipe_off off]
          exact Iu.wipe vs
        · rw [← wipe_off off]
          exact ap5.wipe vs
    · refine .inl ⟨j2 (by omega), ?_⟩
      rw [List.drop_eq_nil_of_le (by omega)] at hl2
      unfold dcL at hl2
      rw [if_pos chk] at hl2
      cases hl2
      exact k L H2 Hs2 (I'.back hno I2 s2) (s'.trans s2) ⟨av, hav, ra⟩ hLs hfm (ap.back hno I2)
  · cases hf
section
variable {kx vx tg iter : Expr} {ifs : List Expr} {scope : Scope} {own : List (Str × Nat)} {pos : Pos} {src : FI} {pt : FG} {c fk fv : FE}
theorem df_dc (own : List (Str × Nat)) (hc : X.calm = true) (hN : X.N.Nodup) (hi : DI X tg iter src) (ok : BlkOk X.N X.env.scope scope own)
    (hg : ∀ (s : Shared) (H : Hp) (C : Addr) (cl : List (Str × Addr)) (fp : List Addr), DG (X.blk s H scope (compEnvC scope cl C X.env) fp) tg pt (own.map (·.2))) (ht : ∀ (s : Shared) (H : Hp) (C : Addr) (cl : List (Str × Addr)) (fp : List Addr), PTs (X.blk s H scope (compEnvC scope cl C X.env) fp) ifs (rdT X.K c))
    (hk : ∀ (s : Shared) (H : Hp) (C : Addr) (cl : List (Str × Addr)) (fp : List Addr), DE (X.blk s H scope (compEnvC scope cl C X.env) fp) kx fk) (he : ∀ (s : Shared) (H : Hp) (C : Addr) (cl : List (Str × Addr)) (fp : List Addr), DE (X.blk s H scope (compEnvC scope cl C X.env) fp) vx fv) (hs : ∀ x, foldedSetIterable iter X.env x = pure x := by intro _; rfl) :
    DF X (.DictComp kx vx [⟨tg, iter, ifs, 0⟩] scope pos) (eDc src (own.map (·.2)) pt c fk fv) := imp (pe_dc hc hN hi ok hg ht hk he hs) fun _ _ _ h => dcRun h
theorem sw_trueD {elt elt2 : Expr} {gs : List Comprehension} {scope : Scope} {pos py : Pos} {y : Str} {l : Nat} {env : Env} (hk : env.scope.kind = .function) (hy : env.scope.names.lookup y = some .local) (hl : (py.line == pos.line) = true)
    (ha : (scope.names.any fun (n, k) => n == y && (k == .local || k == .cell)) = false) : swapsWith (.DictComp elt elt2 gs scope pos) (some (.Name y py)) l env = pure true := by
  have ky : env.kindOf y = some .local := hy
  have hb : env.blockKind = .function := by unfold Env.blockKind; rw [hk]; rfl
  unfold swapsWith
  simp only [hb, ky, ha, Expr.pos, hl]
  rfl
theorem ps_setDc {i : Nat} {y : Str} {py : Pos} {spos : Pos} {wi : TI} {g : TG} {tt : TT} {tk tv : TE} (hc : X.calm = true) (hN : X.N.Nodup) (hy : X.N[i]? = some y) (hyl : X.env.scope.names.lookup y = some .local)
    (hsw : swapsWith (.DictComp kx vx [⟨tg, iter, ifs, 0⟩] scope pos) (some (.Name y py)) spos.line X.env = pure true) (hi : PI X tg iter wi) (ok : BlkOk X.N X.env.scope scope own)
    (hg : ∀ (s : Shared) (H : Hp) (C : Addr) (cl : List (Str × Addr)) (fp : List Addr), PG (X.blk s H scope (compEnvC scope cl C X.env) fp) tg g) (ht : ∀ (s : Shared) (H : Hp) (C : Addr) (cl : List (Str × Addr)) (fp : List Addr), PTs (X.blk s H scope (compEnvC scope cl C X.env) fp) ifs tt)
    (hk : ∀ (s : Shared) (H : Hp) (C : Addr) (cl : List (Str × Addr)) (fp : List Addr), PE (X.blk s H scope (compEnvC scope cl C X.env) fp) kx tk)
    (he : ∀ (s : Shared) (H : Hp) (C : Addr) (cl : List (Str × Addr)) (fp : List Addr), PE (X.blk s H scope (compEnvC scope cl C X.env) fp) vx tv) (hs : ∀ x, foldedSetIterable iter X.env x = pure x := by intro _; rfl) :
    PS X (.Assign [.Name y py] (.DictComp kx vx [⟨tg, iter, ifs, 0⟩] scope pos) spos) (tAsg (tDc wi g tt tk tv (own.map (·.2))) (gName i)) := by
  refine ⟨fun pins s σ H D I h => ?_⟩
  rw [exec_Assign_Name_used _ _ _ _ hsw]
  refine wpAny_bind (wpAny_standAt (wpAny_bind ?_))
  show wpAny _ X.A (do let _ ← comprehension (.DictComp kx vx [⟨tg, iter, ifs, 0⟩] scope pos) scope X.env (firstIterPos [⟨tg, iter, ifs, 0⟩] pos) newDict false (eval iter X.env) (some (assign (.Name y py) X.env))) _ _ s
  have h : tDc wi g tt tk tv (own.map (·.2)) σ H (fun x H1 => gName i x σ H1 D.nx) := h
  refine wpAny_bind (thn (dc_core (Qf := fun _ s' => SP X pins D .next s') hc hN I hi ok hg ht hk he hs h fun L C s' m H' I' q hn f => ?_) fun _ s' hq => wpAny_pure (wpAny_pure hq))
  show wpAny _ _ (assign (.Name y py) X.env (.ref L)) _ _ _
  refine wpAny_assign_Name (store_ok2 (v := V.ref L) I' hN hy (.inl hyl) rfl (fun s2 I2 ⟨a, sb, ha⟩ => ?_) (.inr hyl))
  obtain ⟨f0, f1, f2, f3, f4, f5⟩ := f
  have haC : C ≠ a := by
    rcases ha with z | z
    · rw [z]; exact f1
    · exact fun e => f4 y a z e.symm
  refine ⟨m, hn.sameBut sb haC, fun h3 sb3 => ?_⟩
  exact ⟨_, H', I2.turned (t' := s2.toks) (fun b o hb e => (sb3.2 b hb).trans e) f0 f1 f3 f4 f5, q⟩
theorem ds_ownDc (i : Nat) (own : List (Str × Nat)) {y : Str} {py spos : Pos} (hc : X.calm = true) (hN : X.N.Nodup) (hi : DI X tg iter src) (ok : BlkOk X.N X.env.scope scope own)
    (hg : ∀ (s : Shared) (H : Hp) (C : Addr) (cl : List (Str × Addr)) (fp : List Addr), DG (X.blk s H scope (compEnvC scope cl C X.env) fp) tg pt (own.map (·.2))) (ht : ∀ (s : Shared) (H : Hp) (C : Addr) (cl : List (Str × Addr)) (fp : List Addr), PTs (X.blk s H scope (compEnvC scope cl C X.env) fp) ifs (rdT X.K c))
    (hk : ∀ (s : Shared) (H : Hp) (C : Addr) (cl : List (Str × Addr)) (fp : List Addr), DE (X.blk s H scope (compEnvC scope cl C X.env) fp) kx fk) (he : ∀ (s : Shared) (H : Hp) (C : Addr) (cl : List (Str × Addr)) (fp : List Addr), DE (X.blk s H scope (compEnvC scope cl C X.env) fp) vx fv) (hy : X.N[i]? = some y := by rfl) (hyl : X.env.scope.names.lookup y = some .local := by rfl)
    (hsw : swapsWith (.DictComp kx vx [⟨tg, iter, ifs, 0⟩] scope pos) (some (.Name y py)) spos.line X.env = pure true := by exact sw_trueD rfl rfl rfl (by decide +kernel)) (hs : ∀ x, foldedSetIterable iter X.env x = pure x := by intro _; rfl) :
    DS X (.Assign [.Name y py] (.DictComp kx vx [⟨tg, iter, ifs, 0⟩] scope pos) spos) (sOw i (eDc src (own.map (·.2)) pt c fk fv)) := impS (ps_setDc hc hN hy hyl hsw hi ok hg ht hk he hs) fun Z σ H h => by
  obtain ⟨x, env, Hs, o, I, hf, k⟩ := h
  obtain ⟨⟨d, e1⟩, h1, hf⟩ := Option.bind_eq_some_iff.mp hf
  split at hf
  · rename_i ho
    cases hf
    exact dcRun ⟨x, env, Hs, d, e1, I, h1, fun p H' Hs' I' s' ow n m ap => k _ H' Hs' (I'.setOw (by rw [← I'.len]; exact okSet_lt ho) ow n m ap) s'⟩
  · cases hf
end
def sSetK (i : Nat) (fk fv : FE) : FS := fun env => (fv env).bind fun p => (oS i p.2).bind fun _ => (fk p.2).bind fun q => (kyOf q.1).bind fun ky => match q.2[i]? with
    | some (some (k, .dic kvs)) => if k = .sh ∨ ¬ kvs.length < sizeLine then none else some (.nx (q.2.set i (some (k, .dic (putD kvs ky p.1)))))
    | _ => none
theorem ds_setK (i : Nat) {x : Str} {ei e : Expr} {fi fv : FE} {pos px ps : Pos} (hu : X.A.units + 1 < cLine) (hi : DE X ei fi) (he : DE X e fv) (hN : X.N[i]? = some x := by rfl) (hvis : Vis X.env.scope x := by first | exact Or.inl rfl | exact Or.inr (Or.inl rfl) | exact Or.inr (Or.inr rfl)) (hd : (x == ("__debug__" : Str)) = false := by decide)
    (hcd : (x == ("__classdict__" : Str)) = false := by decide) (hs : swapsWith e (some (.Subscript (.Name x px) ei ps)) pos.line X.env = pure false := by rfl) :
    DS X (.Assign [.Subscript (.Name x px) ei ps] e pos) (sSetK i fi fv) := impS (ps_dput hu (do_peek i hN hvis hd hcd) hi he hs) fun Z σ H h => by
  obtain ⟨y, env, Hs, o, I, hf, k⟩ := h
  obtain ⟨⟨d, e1⟩, h1, hf⟩ := Option.bind_eq_some_iff.mp hf
  obtain ⟨⟨o1, e1'⟩, h3, hf⟩ := Option.bind_eq_some_iff.mp hf
  obtain ⟨⟨n, e2⟩, h2, hf⟩ := Option.bind_eq_some_iff.mp hf
  obtain ⟨ky, hk, hf⟩ := Option.bind_eq_some_iff.mp hf
  have h3' : o1 = .s i ∧ e1' = e1 := by
    unfold oS at h3
    split at h3
    · cases h3
      exact ⟨rfl, rfl⟩
    · cases h3
  obtain ⟨rfl, rfl⟩ := h3'
  refine ⟨y, env, Hs, d, _, I, h1, fun v H1 Hs1 I1 s1 r1 => ⟨y, _, Hs1, .s i, _, I1, h3, fun w H2 Hs2 I2 s2 o2 => ⟨y, _, Hs2, n, e2, I2, h2, fun u H3 Hs3 I3 s3 r3 => ?_⟩⟩⟩
  have hf : (match e2[i]? with
    | some (some (k, .dic kvs)) => if k = .sh ∨ ¬ kvs.length < sizeLine then none else some (Out.nx (e2.set i (some (k, .dic (putD kvs ky d)))))
    | _ => none) = some o := hf
  split at hf
  · rename_i kk kvs hi2
    split at hf
    · cases hf
    · rename_i hkk
      cases hf
      have hkn : kk ≠ .sh := fun z => hkk (.inl z)
      have hzz : kvs.length < sizeLine := Classical.byContradiction fun z => hkk (.inr z)
      have o2 : σ[i]? = some (some w) := o2
      obtain ⟨p, a, b, c, ow, _⟩ := I3.ow i kk (.dic kvs) hi2 hkn
      rw [o2] at a
      cases a
      obtain ⟨ws, hp, rw'⟩ := ow
      have ev := kyOf_rp hk r3
      subst ev
      refine ⟨p, _, rfl, DPut.k hp (by rw [rw'.length]; exact hzz), ?_⟩
      exact k σ _ Hs3 (I3.put hi2 hkn o2 ⟨_, upd_same, rw'.put (Rp.mono (s2.trans s3) _ r1)⟩) (s1.trans (s2.trans s3))
  · cases hf
def ePopK (i : Nat) (fk : FE) : FE := fun env => match env[i]? with
  | some (some (_, .dic _)) => (fk env).bind fun q => (kyOf q.1).bind fun ky => match q.2[i]? with
    | some (some (k, .dic kvs)) => if k = .sh then none else (valD kvs ky).map fun v => (v, q.2.set i (some (k, .dic (dropD kvs ky))))
    | _ => none
  | _ => none
theorem de_popK (i : Nat) {x : Str} {e : Expr} {fk : FE} {pos apos cpos : Pos} (hk : DE X e fk) (m : M1 X (.Name x pos) "pop" apos e cpos := by exact ⟨rfl, rfl, rfl, rfl⟩) (hN : X.N[i]? = some x := by rfl) (hvis : Vis X.env.scope x := by first | exact Or.inl rfl | exact Or.inr (Or.inl rfl) | exact Or.inr (Or.inr rfl)) (hd : (x == ("__debug__" : Str)) = false := by decide)
    (hcd : (x == ("__classdict__" : Str)) = false := by decide) : DE X (.Call (.Attribute (.Name x pos) "pop" apos) [e] [] cpos) (ePopK i fk) := imp (pe_dpop1 (do_peek i hN hvis hd hcd) hk m) fun σ H Q h => by
  obtain ⟨y, env, Hs, d, env', I, hf, k⟩ := h
  unfold ePopK at hf
  split at hf
  · rename_i k0 kv0 hi0
    obtain ⟨⟨n, e2⟩, h2, hf⟩ := Option.bind_eq_some_iff.mp hf
    obtain ⟨ky, hky, hf⟩ := Option.bind_eq_some_iff.mp hf
    split at hf
    · rename_i kk kvs hi2
      split at hf
      · cases hf
      · rename_i hkn
        obtain ⟨z, hz, hf⟩ := Option.map_eq_some_iff.mp hf
        cases hf
        refine ⟨y, env, Hs, .s i, env, I, by unfold oS; rw [hi0], fun w H1 Hs1 I1 s1 o1 => ?_⟩
        have o1 : σ[i]? = some (some w) := o1
        obtain ⟨v1, hv1, p1⟩ := I1.slot hi0
        rw [o1] at hv1
        cases hv1
        obtain ⟨a0, ks0, rfl, g2, g3⟩ := p1
        refine ⟨a0, rfl, .inl ⟨ks0, .inl g2⟩, y, env, Hs1, n, e2, I1, h2, fun u H2 Hs2 I2 s2 r2 => ?_⟩
        have hi2 : e2[i]? = some (some (kk, .dic kvs)) := hi2
        obtain ⟨p, a, b, c, ow, _⟩ := I2.ow i kk (.dic kvs) hi2 hkn
        rw [o1] at a
        cases a
        obtain ⟨ws, hp, rw'⟩ := ow
        obtain ⟨w', hw', rz⟩ := (RpK.val (k := ky) rw').1 _ hz
        exact ⟨ws, ky.key, w', hp, kyOf_rp hky r2, hw', k w' _ Hs2 (I2.put hi2 hkn o1 ⟨_, upd_same, rw'.drop⟩) (s1.trans s2) rz⟩
    · cases hf
  · cases hf
end
end Qd
namespace Qd
open PySem PySem.Spec L2
section
variable {X : Cx} {K : PySem.W.Frag}
/-- a new tuple, shared at once -/
theorem IV.newTup {x : Fx} {env : En} {σ : L2.St} {Hs H : Hp} {T : Addr} {ds : List D} {vs : List V} (I : IV K x env σ Hs H) (hT : H T = none) (r : Rps K Hs ds vs) : ∃ Hs', IV K x env σ Hs' (upd H T (.tup vs)) ∧ Same Hs Hs' ∧ Rp K Hs' (.tup ds) (.ref T) ∧ Same H (upd H T (.tup vs)) ∧ ∀ a o, H a = some o → Hs' a = Hs a := by
  obtain ⟨I2, s2⟩ := (I.new (o := .tup vs) hT).share upd_same (I.hs_none hT) (I.fm_none hT) (I.apart hT)
  refine ⟨_, I2, s2, ?_, same_new hT, fun a o e => upd_ne (ne_of_none e hT)⟩
  simp only [Rp]
  exact ⟨T, vs, rfl, SqT.of upd_same, Rps.mono s2 _ r⟩
def enumD (i : Int) : List D → List D
  | [] => []
  | d :: ds => .tup [.int i, d] :: enumD (i + 1) ds
theorem enumD_get : ∀ (i : Int) (ds : List D) (j : Nat), (enumD i ds)[j]? = (ds[j]?).map fun d => .tup [.int (i + j), d]
  | i, [], j => by simp [enumD]
  | i, d :: ds, 0 => by simp [enumD]
  | i, d :: ds, j + 1 => by
    simp only [enumD, List.getElem?_cons_succ, enumD_get (i + 1) ds j]
    have e : i + 1 + (j : Int) = i + ((j + 1 : Nat) : Int) := by omega
    rw [e]
theorem enumD_length (i : Int) : ∀ ds : List D, (enumD i ds).length = ds.length
  | [] => rfl
  | d :: ds => by
    simp only [enumD, List.length_cons]
    rw [enumD_length]
def iEn (fo : FO) : FI := fun env => (fo env).bind fun p => match fetch p.2 p.1 with
  | some (.lst ds) => some (enumD 0 ds, bOf p.1 (.lst ds), p.2)
  | _ => none
theorem di_enum {e : Expr} {fo : FO} {p pos tpos : Pos} {elts : List Expr} {kk : Nat} (hm : X.mg "enumerate" = none) (h : DO X e fo) (hg : Gl X "enumerate" := by rfl) (hs : starEach [e] X.env = [(false, eval e X.env)] := by rfl) :
    DI X (.Tuple elts kk tpos) (.Call (.Name "enumerate" p) [e] [] pos) (iEn fo) := impI (pi_enum hg hm (da_cons h da_nil hs) hs) fun σ H R h => by
  obtain ⟨x, env, Hs, items, bs, env', I, hf, k⟩ := h
  obtain ⟨⟨o, e1⟩, h1, hf⟩ := Option.bind_eq_some_iff.mp hf
  have hf : (match fetch e1 o with
    | some (.lst ds) => some (enumD 0 ds, bOf o (.lst ds), e1)
    | _ => none) = some (items, bs, env') := hf
  split at hf
  · rename_i ds hd
    cases hf
    refine ⟨x, env, Hs, [o], env', I, by unfold aCons aNil; rw [h1]; rfl, fun vs H' Hs' I' s' o' => ?_⟩
    match vs, o' with
    | [v], ⟨o', _⟩ =>
    obtain ⟨a, ws, rfl, g2, g3⟩ := I'.pk o' hd
    refine ⟨a, ws, rfl, SqL.of g2, k _ H' Hs' I' s' fun i env2 σ2 Hs2 H2 I2 s2 hb => ?_⟩
    obtain ⟨a', ws, ea, q2, q3⟩ := later I2 s2 o' hd hb
    cases ea
    refine ⟨fun d hd' => ?_, fun hl => ⟨ws, SqL.of q2, by rw [q3.length]; rw [enumD_length] at hl; exact hl⟩⟩
    rw [enumD_get] at hd'
    obtain ⟨d0, hd0, hd'⟩ := Option.map_eq_some_iff.mp hd'
    obtain ⟨w, hw, rw'⟩ := q3.get hd0
    refine ⟨⟨ws, w, SqL.of q2, hw⟩, fun v H3 hy => ?_⟩
    obtain ⟨T, y, rfl, hT, rfl, hy⟩ := hy
    have e := hy ws (SqL.of q2)
    rw [hw] at e
    cases e
    subst hd'
    obtain ⟨Hs3, I3, s3, r3, sH, sm⟩ := I2.newTup (ds := [.int ((i : Nat) : Int), d0]) (vs := [.int ((i : Nat) : Int), w]) hT (by simp only [Rps, Rp]; exact ⟨_, _, rfl, rfl, _, _, rfl, rw', rfl⟩)
    refine ⟨Hs3, I3, s3, ?_, sH, sm⟩
    rw [Int.zero_add]
    exact r3
  · cases hf
def zipD : List D → List D → List D
  | a :: r, b :: t => .tup [a, b] :: zipD r t
  | _, _ => []
theorem zipD_get : ∀ (xs ys : List D) (j : Nat), (zipD xs ys)[j]? = (xs[j]?).bind fun a => (ys[j]?).map fun b => .tup [a, b]
  | [], ys, j => by simp [zipD]
  | a :: r, [], j => by
    simp only [zipD, List.getElem?_nil]
    cases (a :: r)[j]? <;> rfl
  | a :: r, b :: t, 0 => by simp [zipD]
  | a :: r, b :: t, j + 1 => by
    simp only [zipD, List.getElem?_cons_succ, zipD_get r t j]
theorem zipD_length : ∀ (xs ys : List D), (zipD xs ys).length = min xs.length ys.length
  | [], ys => by simp [zipD]
  | a :: r, [] => by simp [zipD]
  | a :: r, b :: t => by
    simp only [zipD, List.length_cons, zipD_length r t]
    omega
def iZ (fa fb : FO) : FI := fun env => (fa env).bind fun p => (fb p.2).bind fun q => match fetch q.2 p.1, fetch q.2 q.1 with
  | some (.lst ds), some (.lst es) => some (zipD ds es, bOf p.1 (.lst ds) ++ bOf q.1 (.lst es), q.2)
  | _, _ => none
theorem di_zip {e e2 : Expr} {fa fb : FO} {p pos tpos : Pos} {elts : List Expr} {kk : Nat} (hm : X.mg "zip" = none) (h : DO X e fa) (h' : DO X e2 fb) (hg : Gl X "zip" := by rfl)
    (hs : starEach [e, e2] X.env = (false, eval e X.env) :: starEach [e2] X.env := by rfl) (hs2 : starEach [e2] X.env = [(false, eval e2 X.env)] := by rfl) (hpl : (backTo pos (starEach [e2] X.env)).any (·.1) = false := by rfl) :
    DI X (.Tuple elts kk tpos) (.Call (.Name "zip" p) [e, e2] [] pos) (iZ fa fb) := impI (pi_zip hg hm (da_cons h (da_cons h' da_nil hs2) hs) hs hpl) fun σ H R h => by
  obtain ⟨x, env, Hs, items, bs, env', I, hf, k⟩ := h
  obtain ⟨⟨o, e1⟩, h1, hf⟩ := Option.bind_eq_some_iff.mp hf
  obtain ⟨⟨o2, e2⟩, h2, hf⟩ := Option.bind_eq_some_iff.mp hf
  have hf : (match fetch e2 o, fetch e2 o2 with
    | some (.lst ds), some (.lst es) => some (zipD ds es, bOf o (.lst ds) ++ bOf o2 (.lst es), e2)
    | _, _ => none) = some (items, bs, env') := hf
  split at hf
  · rename_i ds es hd he
    cases hf
    have h2' : fb e1 = some (o2, env') := h2
    refine ⟨x, env, Hs, [o, o2], env', I, by unfold aCons aNil; rw [h1]; simp only [Option.bind_some, h2', Option.map_some], fun vs H' Hs' I' s' o' => ?_⟩
    match vs, o' with
    | [v, w], ⟨oa, ob, _⟩ =>
    obtain ⟨a, ws, rfl, g2, g3⟩ := I'.pk oa hd
    obtain ⟨b, us, rfl, f2, f3⟩ := I'.pk ob he
    refine ⟨a, b, ws, us, rfl, SqL.of g2, SqL.of f2, k _ H' Hs' I' s' fun i env2 σ2 Hs2 H2 I2 s2 hb => ?_⟩
    obtain ⟨a', ws, ea, q2, q3⟩ := later I2 s2 oa hd fun z hz => hb z (List.mem_append_left _ hz)
    cases ea
    obtain ⟨b', us, eb, p2, p3⟩ := later I2 s2 ob he fun z hz => hb z (List.mem_append_right _ hz)
    cases eb
    refine ⟨fun d hd' => ?_, fun hl => ⟨ws, us, SqL.of q2, SqL.of p2, by rw [q3.length, p3.length]; rw [zipD_length] at hl; omega⟩⟩
    rw [zipD_get] at hd'
    obtain ⟨d0, hd0, hd'⟩ := Option.bind_eq_some_iff.mp hd'
    obtain ⟨d1, hd1, hd'⟩ := Option.map_eq_some_iff.mp hd'
    obtain ⟨w0, hw0, rw0⟩ := q3.get hd0
    obtain ⟨w1, hw1, rw1⟩ := p3.get hd1
    refine ⟨⟨ws, us, w0, w1, SqL.of q2, SqL.of p2, hw0, hw1⟩, fun v H3 hy => ?_⟩
    obtain ⟨T, y0, y1, rfl, hT, rfl, hy0, hy1⟩ := hy
    have e0 := hy0 ws (SqL.of q2)
    rw [hw0] at e0
    cases e0
    have e1 := hy1 us (SqL.of p2)
    rw [hw1] at e1
    cases e1
    subst hd'
    exact I2.newTup (ds := [d0, d1]) (vs := [w0, w1]) hT (by simp only [Rps]; exact ⟨_, _, rfl, rw0, _, _, rfl, rw1, rfl⟩)
  · cases hf
inductive Res where
  | ok (own : Bool) (d : D) (outs : List D)
abbrev FN := List D → Option Res
def mkEn (ks : List Kd) (ds : List D) : En := List.zipWith (fun k d => some (k, d)) ks ds
def Back (K : PySem.W.Frag) (x : Fx) (ks : List Kd) (Hs Hs' H' : Hp) (outs : List D) : Prop := Same Hs Hs' ∧ Same Hs' H' ∧ Same x.fm H' ∧ (∀ a o, Hs' a = some o → x.hs a = some o ∨ x.fm a = none) ∧
  ∀ (i : Nat), ks[i]? = some .pn → ∃ d', outs[i]? = some d' ∧ Hs' (x.pa i) = none ∧ Own K Hs' H' (x.pa i) d'
def ResE (K : PySem.W.Frag) (x : Fx) (ks : List Kd) (Hs : Hp) (Q : VK) : Res → Prop
  | .ok false d outs => ∀ v H' Hs', Back K x ks Hs Hs' H' outs → Rp K Hs' d v → Q v H'
  | .ok true d outs => ∀ p H' Hs', Back K x ks Hs Hs' H' outs → Own K Hs' H' p d → Hs' p = none → x.fm p = none → (∀ i : Nat, ks[i]? = some .pn → p ≠ x.pa i) → Q (.ref p) H'
def spD (K : PySem.W.Frag) (ks : List Kd) (f : FN) : Sp := fun vs H Q _ => ∃ (x : Fx) (Hs : Hp) (ds : List D) (r : Res), ds.length = ks.length ∧ IV K x (mkEn ks ds) (vs.map some) Hs H ∧ f ds = some r ∧ ResE K x ks Hs Q r
def outsOf : List Kd → En → Option (List D)
  | [], _ => some []
  | .pn :: ks, some (.pn, d) :: e => (outsOf ks e).map fun r => d :: r
  | .pn :: _, _ => none
  | .sh :: ks, _ :: e => (outsOf ks e).map fun r => .non :: r
  | .ow :: ks, _ :: e => (outsOf ks e).map fun r => .non :: r
  | _ :: _, [] => none
theorem outsOf_get : ∀ {ks : List Kd} {e : En} {outs : List D}, outsOf ks e = some outs → ∀ i : Nat, ks[i]? = some .pn → ∃ d, outs[i]? = some d ∧ e[i]? = some (some (.pn, d))
  | [], _, _, _, i, hi => by simp at hi
  | .pn :: ks, [], _, h, i, hi => by cases h
  | .pn :: ks, none :: e, _, h, i, hi => by cases h
  | .pn :: ks, some (.sh, d) :: e, _, h, i, hi => by cases h
  | .pn :: ks, some (.ow, d) :: e, _, h, i, hi => by cases h
  | .pn :: ks, some (.pn, d) :: e, _, h, i, hi => by
    obtain ⟨r, h1, h2⟩ := Option.map_eq_some_iff.mp (show (outsOf ks e).map (fun r => d :: r) = some _ from h)
    subst h2
    cases i with
    | zero => exact ⟨d, rfl, rfl⟩
    | succ i => simpa using outsOf_get h1 i (by simpa using hi)
  | .sh :: ks, [], _, h, i, hi => by cases h
  | .sh :: ks, s :: e, _, h, i, hi => by
    obtain ⟨r, h1, h2⟩ := Option.map_eq_some_iff.mp (show (outsOf ks e).map (fun r => .non :: r) = some _ from h)
    subst h2
    cases i with
    | zero => simp at hi
    | succ i => simpa using outsOf_get h1 i (by simpa using hi)
  | .ow :: ks, [], _, h, i, hi => by cases h
  | .ow :: ks, s :: e, _, h, i, hi => by
    obtain ⟨r, h1, h2⟩ := Option.map_eq_some_iff.mp (show (outsOf ks e).map (fun r => .non :: r) = some _ from h)
    subst h2
    cases i with
    | zero => simp at hi
    | succ i => simpa using outsOf_get h1 i (by simpa using hi)
/-- what a def does, by its body -/
def fnF (ks : List Kd) (n : Nat) (F : FS) : FN := fun ds => if ds.length = ks.length then match F (mkEn ks ds ++ List.replicate n none) with
  | some (.rt own d e) => (outsOf ks e).map fun o => .ok own d o
  | some (.nx e) => (outsOf ks e).map fun o => .ok false .non o
  | _ => none else none
theorem mkEn_length : ∀ {ks : List Kd} {ds : List D}, ds.length = ks.length → (mkEn ks ds).length = ks.length
  | [], [], _ => rfl
  | k :: ks, d :: ds, h => by
    have := mkEn_length (ks := ks) (ds := ds) (by simpa using h)
    simpa [mkEn] using this
theorem IV.pad {x : Fx} {env : En} {σ : L2.St} {Hs H : Hp} (I : IV K x env σ Hs H) (n : Nat) : IV K x (env ++ List.replicate n none) (σ ++ List.replicate n none) Hs H := by
  have g : ∀ {j : Nat} {s : Sl}, (env ++ List.replicate n none)[j]? = some (some s) → env[j]? = some (some s) := fun {j s} h => by
    by_cases hj : j < env.length
    · rw [List.getElem?_append_left hj] at h
      exact h
    · rw [List.getElem?_append_right (by omega), List.getElem?_replicate] at h
      split at h <;> cases h
  have g2 : ∀ {j : Nat} {v : V}, σ[j]? = some (some v) → (σ ++ List.replicate n none)[j]? = some (some v) := fun {j v} h => by
    rw [List.getElem?_append_left (List.getElem?_eq_some_iff.mp h).1]
    exact h
  have g3 : ∀ {j : Nat} {v : V}, (σ ++ List.replicate n none)[j]? = some (some v) → σ[j]? = some (some v) := fun {j v} h => by
    by_cases hj : j < σ.length
    · rw [List.getElem?_append_left hj] at h
      exact h
    · rw [List.getElem?_append_right (by omega), List.getElem?_replicate] at h
      split at h <;> cases h
  refine ⟨by simp [I.len], I.ex, I.fr, I.sep, I.h0, fun i d h => ?_, fun i k d h hk => ?_, fun i j k l d e p hne h1 h2 h3 h4 h5 => ?_⟩
  · obtain ⟨v, a, r⟩ := I.sh i d (g h)
    exact ⟨v, g2 a, r⟩
  · obtain ⟨p, a, r⟩ := I.ow i k d (g h) hk
    exact ⟨p, g2 a, r⟩
  · intro z
    exact I.dj i j k l d e p hne (g h1) h2 (g h3) h4 (g3 h5) (g3 z)
theorem IV.toBack {x : Fx} {e : En} {σ : L2.St} {Hs Hs' H' : Hp} {ks : List Kd} {outs : List D} (I : IV K x e σ Hs' H') (s : Same Hs Hs') (h : outsOf ks e = some outs) : Back K x ks Hs Hs' H' outs ∧ ∀ p, Apart e σ p → ∀ i : Nat, ks[i]? = some .pn → p ≠ x.pa i := by
  refine ⟨⟨s, I.ex, I.fr, I.sep, fun i hi => ?_⟩, fun p ap i hi z => ?_⟩
  · obtain ⟨d, h1, h2⟩ := outsOf_get h i hi
    obtain ⟨p, a, b, c, o, z⟩ := I.ow i .pn d h2 (by decide)
    have z := z rfl
    subst z
    exact ⟨d, h1, b, o⟩
  · obtain ⟨d, h1, h2⟩ := outsOf_get h i hi
    obtain ⟨q, a, b, c, o, w⟩ := I.ow i .pn d h2 (by decide)
    have w := w rfl
    subst w
    subst z
    exact ap i .pn d h2 (by decide) a
end
section
variable {P : Program} {w : World} {K : PySem.W.Frag} {mg : Str → Option Value} {base : Heap} {nm qual : Str} {params : Arguments} {body : List Stmt} {scope : Scope} {dvs : List V} {kws : List (Str × V)} {f : Addr} {fd : FuncData}
/-- a def that raises nothing -/
theorem fn_ok {N ps : List Str} {k : Nat} {ks : List Kd} {F : FS} {g : FN} (FD : FunD K nm qual params body scope dvs kws f fd) (SC : FnScope N ps scope) (hk : ks.length = ps.length) (hN : ps.length ≤ N.length)
    (hb : ∀ (cdv : Value) (A : Around) (outer : List Env) (s : Shared) (H : Hp) (E : XK), Room k (A.deeper (PyProof.Rows.envOfC qual scope s.heap.objs.size f cdv)) → DSs (cxOf CX0 P w K mg base N qual scope f cdv A outer s H E).nox body F)
    (hg : ∀ ds r, g ds = some r → fnF ks (N.length - ps.length) F ds = some r) : FnOk P w K mg base CX0 (k + 1) f fd ps (spD K ks g) := by
  have hlen : ∀ (vs : List V) (x : Fx) (Hs H : Hp) (ds : List D), ds.length = ks.length → IV K x (mkEn ks ds) (vs.map some) Hs H → vs.length = ps.length := fun vs x Hs H ds hd I => by
    have e := I.len
    rw [mkEn_length hd, List.length_map] at e
    omega
  refine FD.ok SC (fun vs H Q E h => ?_) (fun cdv A outer s H vs Q E hr h => ⟨rdS K F, (hb cdv A outer s H E hr).nox, ?_⟩)
  · obtain ⟨x, Hs, ds, r, hd, I, _⟩ := h
    exact hlen vs x Hs H ds hd I
  · obtain ⟨x, Hs, ds, r, hd, I, hf, k⟩ := h
    have hl := hlen vs x Hs H ds hd I
    have hf := hg ds r hf
    unfold fnF at hf
    rw [if_pos hd] at hf
    unfold L2.start
    rw [hl]
    have Ip := I.pad (N.length - ps.length)
    cases ho : F (mkEn ks ds ++ List.replicate (N.length - ps.length) none) with
    | none =>
      rw [ho] at hf
      cases hf
    | some o =>
      rw [ho] at hf
      refine ⟨x, _, Hs, o, Ip, ho, ?_⟩
      cases o with
      | bk e => cases hf
      | ct e => cases hf
      | nx e =>
        obtain ⟨outs, h1, hf⟩ := Option.map_eq_some_iff.mp (show (outsOf ks e).map (fun o => Res.ok false .non o) = some r from hf)
        subst hf
        exact fun σ' H' Hs' I' s' => k .non H' Hs' (I'.toBack s' h1).1 (by simp only [Rp])
      | rt own d e =>
        obtain ⟨outs, h1, hf⟩ := Option.map_eq_some_iff.mp (show (outsOf ks e).map (fun o => Res.ok own d o) = some r from hf)
        subst hf
        cases own with
        | false => exact fun v σ' H' Hs' I' s' r => k v H' Hs' (I'.toBack s' h1).1 r
        | true => exact fun p σ' H' Hs' I' s' ow n m ap => k p H' Hs' (I'.toBack s' h1).1 ow n m ((I'.toBack s' h1).2 p ap)
end
end Qd
namespace Qd
open PySem PySem.Spec L2
/-- a def of the module, known by what it does -/
structure Kn (P : Program) (w : World) (K : PySem.W.Frag) (mg : Str → Option Value) (base : Heap) (k : Nat) (x : Str) (ks : List Kd) (g : FN) : Prop where
  ex : ∃ f fd ps, FnOk P w K mg base CX0 k f fd ps (spD K ks g) ∧ mg x = some (.ref f) ∧ PySem.W.keepIn K (.ref f) = true ∧ Binds K fd ps []
section
variable {X : Cx} {K : PySem.W.Frag}
/-- the shared heap has grown by things that are new since H0 -/
theorem IV.widen {x : Fx} {env : En} {σ : L2.St} {Hs Hs' H0 H : Hp} (I0 : IV K x env σ Hs H0) (e : Same H0 H) (s : Same Hs Hs') (ex : Same Hs' H) (nw : ∀ a o, Hs' a = some o → Hs a = some o ∨ H0 a = none) : IV K x env σ Hs' H := by
  have I := I0.grow e
  refine ⟨I.len, ex, I.fr, fun a o h => ?_, I.h0.trans s, fun i d h => ?_, fun i k d h hk => ?_, I.dj⟩
  · rcases nw a o h with z | z
    · exact I.sep a o z
    · exact .inr (I0.fm_none z)
  · obtain ⟨v, a, r⟩ := I.sh i d h
    exact ⟨v, a, Rp.mono s _ r⟩
  · obtain ⟨p, a, b, c, o, z⟩ := I.ow i k d h hk
    refine ⟨p, a, ?_, c, o.mono s rfl, z⟩
    cases q : Hs' p with
    | none => rfl
    | some u =>
      rcases nw p u q with w | w
      · rw [b] at w
        cases w
      · obtain ⟨p0, a0, b0, c0, o0, _⟩ := I0.ow i k d h hk
        rw [a] at a0
        cases a0
        obtain ⟨u0, hu0⟩ := o0.has
        rw [w] at hu0
        cases hu0
theorem mkEn_sh : ∀ {ks : List Kd} {ds : List D} {i : Nat} {k : Kd} {d : D}, (mkEn ks ds)[i]? = some (some (k, d)) → ks[i]? = some k ∧ ds[i]? = some d
  | [], ds, i, k, d, h => by simp [mkEn] at h
  | _ :: _, [], i, k, d, h => by simp [mkEn] at h
  | k' :: ks, d' :: ds, 0, k, d, h => by
    have h : some (some (k', d')) = some (some (k, d)) := h
    cases h
    exact ⟨rfl, rfl⟩
  | k' :: ks, d' :: ds, i + 1, k, d, h => mkEn_sh (ks := ks) (ds := ds) (i := i) h
def allSh (ks : List Kd) : Bool := ks.all fun k => k == .sh
theorem allSh_get {ks : List Kd} (h : allSh ks = true) {i : Nat} {k : Kd} (e : ks[i]? = some k) : k = .sh := by
  have := List.all_eq_true.mp h k (List.mem_of_getElem? e)
  simpa using this
/-- a callee that is handed shared things alone -/
theorem IV.callee {ks : List Kd} {ds : List D} {vs : List V} {Hs H : Hp} (hk : allSh ks = true) (hl : ds.length = ks.length) (ex : Same Hs H) (r : Rps K Hs ds vs) : IV K ⟨H, Hs, fun _ => 0⟩ (mkEn ks ds) (vs.map some) Hs H := by
  refine ⟨by rw [mkEn_length hl, List.length_map, r.length, hl], ex, Same.refl _, fun a o h => .inl h, Same.refl _, fun i d h => ?_, fun i k d h hn => ?_, fun i j k l d e p _ h1 h2 => ?_⟩
  · obtain ⟨_, h2⟩ := mkEn_sh h
    obtain ⟨v, hv, rv⟩ := r.get h2
    exact ⟨v, by rw [List.getElem?_map, hv]; rfl, rv⟩
  · exact absurd (allSh_get hk (mkEn_sh h).1) hn
  · exact absurd (allSh_get hk (mkEn_sh h1).1) h2
def exV (ks : List Kd) (g : FN) (fa : FA) (env : En) : Option (Bool × D × En) := (fa env).bind fun p => (allD p.1).bind fun ds => if allSh ks ∧ ds.length = ks.length then (g ds).map fun r => match r with
  | .ok own d _ => (own, d, p.2) else none
/-- f(e, ..): values in; shared out, or a new thing out -/
def eCall (ks : List Kd) (g : FN) (fa : FA) : FE := fun env => (exV ks g fa env).map fun r => (r.2.1, r.2.2)
def eCallF (ks : List Kd) (g : FN) (fa : FA) : FE := fun env => (exV ks g fa env).bind fun r => if r.1 then some (r.2.1, r.2.2) else none
theorem callRun {ks : List Kd} {g : FN} {fa : FA} {x : Fx} {env env' : En} {σ : L2.St} {Hs H : Hp} {own : Bool} {d : D} {Q : VK} {E : XK} (I : IV K x env σ Hs H) (hf : exV ks g fa env = some (own, d, env'))
    (k0 : own = false → ∀ v H' Hs', IV K x env' σ Hs' H' → Same Hs Hs' → Rp K Hs' d v → Q v H')
    (k1 : own = true → ∀ p H' Hs', IV K x env' σ Hs' H' → Same Hs Hs' → Own K Hs' H' p d → Hs' p = none → x.fm p = none → Apart env' σ p → Q (.ref p) H') : tCall (spD K ks g) [] E (rdA K fa) σ H Q := by
  unfold exV at hf
  obtain ⟨⟨os, e1⟩, h1, hf⟩ := Option.bind_eq_some_iff.mp hf
  obtain ⟨ds, h2, hf⟩ := Option.bind_eq_some_iff.mp hf
  split at hf
  · rename_i hc
    obtain ⟨r, h3, hf⟩ := Option.map_eq_some_iff.mp hf
    have e0 : os = ds.map Ov.d := allD_eq h2
    refine ⟨x, env, Hs, os, e1, I, h1, fun vs H1 Hs1 I1 s1 o1 => ?_⟩
    rw [e0] at o1
    have rs := o1.rps
    show spD K ks g (vs ++ []) H1 Q E
    rw [List.append_nil]
    refine ⟨_, Hs1, ds, r, hc.2, IV.callee hc.1 hc.2 I1.ex rs, h3, ?_⟩
    cases r with
    | ok own' d' outs =>
      cases hf
      cases own with
      | false =>
        intro v H' Hs' bk r'
        obtain ⟨b1, b2, b3, b4, _⟩ := bk
        exact k0 rfl v H' Hs' (I1.widen b3 b1 b2 b4) (s1.trans b1) r'
      | true =>
        intro p H' Hs' bk ow n m _
        obtain ⟨b1, b2, b3, b4, _⟩ := bk
        have m : H1 p = none := m
        exact k1 rfl p H' Hs' (I1.widen b3 b1 b2 b4) (s1.trans b1) ow n (I1.fm_none m) (I1.apart m)
  · cases hf
theorem de_call {kk : Nat} {ks : List Kd} {g : FN} {n : Str} {e : Expr} {es : List Expr} {fa : FA} {p pos : Pos} (C : Kn X.prog X.w X.K X.mg X.base kk n ks g) (hr : Room kk X.A) (ha : DA X (e :: es) fa) (hg : Gl X n := by rfl) (hdb : (n == ("__debug__" : Str)) = false := by decide)
    (he : starEach (e :: es) X.env = (false, eval e X.env) :: starEach es X.env := by rfl) (hpl : (backTo pos (starEach es X.env)).any (·.1) = false := by rfl) : DE X (.Call (.Name n p) (e :: es) [] pos) (eCall ks g fa) := by
  obtain ⟨f, fd, ps, F, hm, kp, hb⟩ := C.ex
  refine imp (pe_call (E := E0) F hr hg hm kp hb .nil pass0 ha hdb he hpl) fun σ H Q h => ?_
  obtain ⟨x, env, Hs, d, env', I, hf, k⟩ := h
  obtain ⟨⟨own, d', e'⟩, h1, hf⟩ := Option.map_eq_some_iff.mp hf
  cases hf
  refine callRun I h1 (fun _ v H' Hs' I' s' r => k v H' Hs' I' s' r) fun _ p H' Hs' I' s' ow n m ap => ?_
  obtain ⟨G, I2, s2, r⟩ := I'.freeze ow n m ap
  exact k _ H' G I2 (s'.trans s2) r
theorem df_call {kk : Nat} {ks : List Kd} {g : FN} {n : Str} {e : Expr} {es : List Expr} {fa : FA} {p pos : Pos} (C : Kn X.prog X.w X.K X.mg X.base kk n ks g) (hr : Room kk X.A) (ha : DA X (e :: es) fa) (hg : Gl X n := by rfl) (hdb : (n == ("__debug__" : Str)) = false := by decide)
    (he : starEach (e :: es) X.env = (false, eval e X.env) :: starEach es X.env := by rfl) (hpl : (backTo pos (starEach es X.env)).any (·.1) = false := by rfl) : DF X (.Call (.Name n p) (e :: es) [] pos) (eCallF ks g fa) := by
  obtain ⟨f, fd, ps, F, hm, kp, hb⟩ := C.ex
  refine imp (pe_call (E := E0) F hr hg hm kp hb .nil pass0 ha hdb he hpl) fun σ H Q h => ?_
  obtain ⟨x, env, Hs, d, env', I, hf, k⟩ := h
  obtain ⟨⟨own, d', e'⟩, h1, hf⟩ := Option.bind_eq_some_iff.mp hf
  split at hf
  · rename_i ho
    cases hf
    have ho : own = true := ho
    subst ho
    exact callRun I h1 (fun z => nomatch z) fun _ p H' Hs' I' s' ow n m ap => k p H' Hs' I' s' ow n m ap
  · cases hf
/-- f(e, ..), what slots own is lent; a flat answer -/
def eCallB (ks : List Kd) (g : FN) (fa : FA) : FE := fun env => (fa env).bind fun p => (fetchs p.2 p.1).bind fun ds => if allSh ks ∧ ds.length = ks.length then match g ds with
  | some (.ok false d _) => if flat d then some (d, p.2) else none
  | _ => none else none
theorem flat_rp {H H' : Hp} {d : D} {v : V} (h : flat d = true) (r : Rp K H d v) : Rp K H' d v := by
  cases d <;> first | (simp only [flat] at h; cases h; done) | (simp only [Rp] at r ⊢; exact r)
theorem Pks.rps {Hs H : Hp} (ex : Same Hs H) : ∀ {ds : List D} {vs : List V}, Pks K Hs H ds vs → Rps K H ds vs
  | [], [], _ => by simp only [Rps]
  | d :: ds, v :: vs, ⟨a, b⟩ => by
    simp only [Rps]
    exact ⟨v, vs, rfl, a.rp ex, Pks.rps ex b⟩
  | [], _ :: _, h => h.elim
  | _ :: _, [], h => h.elim
theorem de_callB' {kk : Nat} {ks : List Kd} {g : FN} {n : Str} {e : Expr} {es : List Expr} {fa : FA} {p pos : Pos} (C : Kn X.prog X.w X.K X.mg X.base kk n ks g) (hr : Room kk X.A) (ha : DA X (e :: es) fa) (hg : Gl X n := by rfl) (hdb : (n == ("__debug__" : Str)) = false := by decide)
    (he : starEach (e :: es) X.env = (false, eval e X.env) :: starEach es X.env := by rfl) (hpl : (backTo pos (starEach es X.env)).any (·.1) = false := by rfl) : DE X (.Call (.Name n p) (e :: es) [] pos) (eCallB ks g fa) := by
  obtain ⟨f, fd, ps, F, hm, kp, hb⟩ := C.ex
  refine imp (pe_call (E := E0) F hr hg hm kp hb .nil pass0 ha hdb he hpl) fun σ H Q h => ?_
  obtain ⟨x, env, Hs, d, env', I, hf, k⟩ := h
  obtain ⟨⟨os, e1⟩, h1, hf⟩ := Option.bind_eq_some_iff.mp hf
  obtain ⟨ds, h2, hf⟩ := Option.bind_eq_some_iff.mp hf
  split at hf
  · rename_i hc
    split at hf
    · rename_i d' outs hg'
      split at hf
      · rename_i hfl
        cases hf
        refine ⟨x, env, Hs, os, e1, I, h1, fun vs H1 Hs1 I1 s1 o1 => ?_⟩
        show spD X.K ks g (vs ++ []) H1 Q E0
        rw [List.append_nil]
        refine ⟨_, H1, ds, _, hc.2, IV.callee hc.1 hc.2 (Same.refl _) ((I1.pks o1 h2).rps I1.ex), hg', ?_⟩
        intro v H' Hs' bk r'
        obtain ⟨b1, b2, b3, b4, _⟩ := bk
        exact k v H' Hs1 (I1.grow b3) s1 (flat_rp hfl r')
      · cases hf
    · cases hf
  · cases hf
/-- f(xs, e, ..): what slot i owns is handed in and comes back changed -/
def exP (i : Nat) (ks : List Kd) (g : FN) (fa : FA) (env : En) : Option (Bool × D × En) := (oS i env).bind fun _ => (fa env).bind fun p => (allD p.1).bind fun ds => match p.2[i]? with
  | some (some (k, d0)) => if k ≠ .sh ∧ allSh ks ∧ ds.length = ks.length then match g (d0 :: ds) with
    | some (.ok own d (d1 :: _)) => some (own, d, p.2.set i (some (k, d1)))
    | _ => none else none
  | _ => none
def eCallP (i : Nat) (ks : List Kd) (g : FN) (fa : FA) : FE := fun env => (exP i ks g fa env).map fun r => (r.2.1, r.2.2)
def eCallPF (i : Nat) (ks : List Kd) (g : FN) (fa : FA) : FE := fun env => (exP i ks g fa env).bind fun r => if r.1 then some (r.2.1, r.2.2) else none
theorem IV.calleeP {ks : List Kd} {ds : List D} {vs : List V} {Hs H : Hp} {p : Addr} {d0 : D} (hk : allSh ks = true) (hl : ds.length = ks.length) (ex : Same Hs H) (r : Rps K Hs ds vs) (hp : Hs p = none) (ow : Own K Hs H p d0) :
    IV K ⟨fun a => if a = p then none else H a, Hs, fun _ => p⟩ (mkEn (.pn :: ks) (d0 :: ds)) ((.ref p :: vs).map some) Hs H := by
  have g : ∀ {i : Nat} {k : Kd} {d : D}, (mkEn (.pn :: ks) (d0 :: ds))[i]? = some (some (k, d)) → (i = 0 ∧ k = .pn ∧ d = d0) ∨ ∃ j, i = j + 1 ∧ k = .sh ∧ ds[j]? = some d := fun {i k d} h => by
    cases i with
    | zero =>
      have h : some (some (Kd.pn, d0)) = some (some (k, d)) := h
      cases h
      exact .inl ⟨rfl, rfl, rfl⟩
    | succ i =>
      obtain ⟨h1, h2⟩ := mkEn_sh (ks := ks) (ds := ds) (i := i) h
      exact .inr ⟨i, rfl, allSh_get hk h1, h2⟩
  refine ⟨by rw [mkEn_length (by simp [hl])]; simp [r.length, hl], ex, fun b o h => ?_, fun a o h => .inl h, Same.refl _, fun i d h => ?_, fun i k d h hn => ?_, fun i j k l d e q hne h1 h2 h3 h4 => ?_⟩
  · have h : (if b = p then none else H b) = some o := h
    split at h
    · cases h
    · exact h
  · rcases g h with ⟨_, z, _⟩ | ⟨j, rfl, _, h2⟩
    · cases z
    · obtain ⟨v, hv, rv⟩ := r.get h2
      exact ⟨v, by simp [hv], rv⟩
  · rcases g h with ⟨rfl, rfl, rfl⟩ | ⟨j, rfl, z, h2⟩
    · exact ⟨p, rfl, hp, if_pos rfl, ow, fun _ => rfl⟩
    · exact absurd z hn
  · rcases g h1 with ⟨rfl, _, _⟩ | ⟨j1, rfl, z, _⟩
    · rcases g h3 with ⟨rfl, _, _⟩ | ⟨j1, rfl, z, _⟩
      · exact absurd rfl hne
      · exact absurd z h4
    · exact absurd z h2
/-- behind such a call -/
theorem IV.after {x : Fx} {env : En} {σ : L2.St} {Hs Hs' H H' : Hp} {i : Nat} {k : Kd} {d d' : D} {p : Addr} (I : IV K x env σ Hs H) (hi : env[i]? = some (some (k, d))) (hk : k ≠ .sh) (hp : σ[i]? = some (some (.ref p))) (s : Same Hs Hs') (ex : Same Hs' H')
    (kp : ∀ a o, a ≠ p → H a = some o → H' a = some o) (nw : ∀ a o, Hs' a = some o → Hs a = some o ∨ a = p ∨ H a = none) (hn : Hs' p = none) (ow : Own K Hs' H' p d') : IV K x (env.set i (some (k, d'))) σ Hs' H' := by
  obtain ⟨q, a, b, c, _, z⟩ := I.ow i k d hi hk
  rw [hp] at a
  cases a
  refine ⟨by rw [List.length_set, I.len], ex, fun a o h => kp a o (fun e => by subst e; rw [c] at h; cases h) (I.fr a o h), fun a o h => ?_, I.h0.trans s, fun j e h1 => ?_, fun j l e h1 h2 => ?_, fun j l kj kl dj dl r hne h1 h2 h3 h4 h5 => ?_⟩
  · rcases nw a o h with w | w | w
    · exact I.sep a o w
    · subst w
      rw [hn] at h
      cases h
    · exact .inr (I.fm_none w)
  · rcases get_set h1 with ⟨rfl, h⟩ | ⟨hj, h⟩
    · cases h
      exact absurd rfl hk
    · obtain ⟨v, hv, r⟩ := I.sh j e h
      exact ⟨v, hv, Rp.mono s _ r⟩
  · rcases get_set h1 with ⟨rfl, h⟩ | ⟨hj, h⟩
    · cases h
      exact ⟨p, hp, hn, c, ow, z⟩
    · obtain ⟨r, a', b', c', o', z'⟩ := I.ow j l e h h2
      have ne : r ≠ p := fun w => by
        subst w
        exact I.dj j i l k e d r hj h h2 hi hk a' hp
      obtain ⟨u, hu⟩ := o'.has
      refine ⟨r, a', ?_, c', o'.mono s ((kp r u ne hu).trans hu.symm), z'⟩
      cases q : Hs' r with
      | none => rfl
      | some t =>
        rcases nw r t q with w | w | w
        · rw [b'] at w
          cases w
        · exact absurd w ne
        · rw [w] at hu
          cases hu
  · have g : ∀ {m : Nat} {km : Kd} {dm : D}, (env.set i (some (k, d')))[m]? = some (some (km, dm)) → ∃ dm', env[m]? = some (some (km, dm')) := fun {m km dm} hh => by
      rcases get_set hh with ⟨em, h⟩ | ⟨_, h⟩
      · cases h
        rw [em]
        exact ⟨d, hi⟩
      · exact ⟨dm, h⟩
    obtain ⟨d1, g1⟩ := g h1
    obtain ⟨d2, g2⟩ := g h3
    exact I.dj j l kj kl d1 d2 r hne g1 h2 g2 h4 h5
theorem callRunP {i : Nat} {ks : List Kd} {g : FN} {fa : FA} {x : Fx} {env env' : En} {σ : L2.St} {Hs H : Hp} {own : Bool} {d : D} {Q : VK} {E : XK} (I : IV K x env σ Hs H) (hf : exP i ks g fa env = some (own, d, env'))
    (k0 : own = false → ∀ v H' Hs', IV K x env' σ Hs' H' → Same Hs Hs' → Rp K Hs' d v → Q v H')
    (k1 : own = true → ∀ p H' Hs', IV K x env' σ Hs' H' → Same Hs Hs' → Own K Hs' H' p d → Hs' p = none → x.fm p = none → Apart env' σ p → Q (.ref p) H') : tCall (spD K (.pn :: ks) g) [] E (rdA K (aCons (oS i) fa)) σ H Q := by
  unfold exP at hf
  obtain ⟨⟨oi, ei⟩, h0, hf1⟩ := Option.bind_eq_some_iff.mp hf
  obtain ⟨⟨os, e1⟩, h1, hf2⟩ := Option.bind_eq_some_iff.mp hf1
  obtain ⟨ds, h2, hf3⟩ := Option.bind_eq_some_iff.mp hf2
  clear hf hf1 hf2
  have h0' : oi = .s i ∧ ei = env := by
    unfold oS at h0
    split at h0
    · cases h0
      exact ⟨rfl, rfl⟩
    · cases h0
  obtain ⟨rfl, rfl⟩ := h0'
  split at hf3
  · rename_i kk d0 hi
    have hi : e1[i]? = some (some (kk, d0)) := hi
    split at hf3
    · rename_i hc
      obtain ⟨hk, hsh, hl⟩ := hc
      split at hf3
      · rename_i own' d' d1 outs hg
        cases hf3
        have e0 : os = ds.map Ov.d := allD_eq h2
        refine ⟨x, _, Hs, .s i :: os, e1, I, by unfold aCons; rw [h0]; simp only [Option.bind_some, h1, Option.map_some], fun vs H1 Hs1 I1 s1 o1 => ?_⟩
        match vs, o1 with
        | v :: vs, ⟨ov, o1⟩ =>
        have ov : σ[i]? = some (some v) := ov
        rw [e0] at o1
        have rs := o1.rps
        obtain ⟨p, a, b, c, ow, z⟩ := I1.ow i kk d0 hi hk
        rw [ov] at a
        cases a
        show spD K (.pn :: ks) g ((V.ref p :: vs) ++ []) H1 Q E
        rw [List.append_nil]
        refine ⟨_, Hs1, d0 :: ds, _, by simp [hl], IV.calleeP hsh hl I1.ex rs b ow, hg, ?_⟩
        have fin : ∀ {H' Hs' : Hp}, Back K ⟨fun a => if a = p then none else H1 a, Hs1, fun _ => p⟩ (.pn :: ks) Hs1 Hs' H' (d1 :: outs) → IV K x (e1.set i (some (kk, d1))) σ Hs' H' ∧ Same Hs1 Hs' ∧ Hs' p = none := fun {H' Hs'} bk => by
          obtain ⟨b1, b2, b3, b4, b5⟩ := bk
          obtain ⟨d', hd', n1, ow'⟩ := b5 0 rfl
          cases hd'
          refine ⟨I1.after hi hk ov b1 b2 (fun a o ne h => b3 a o (by show (if a = p then none else H1 a) = some o; rw [if_neg ne]; exact h)) (fun a o h => ?_) n1 ow', b1, n1⟩
          rcases b4 a o h with w | w
          · exact .inl w
          · right
            have w : (if a = p then none else H1 a) = none := w
            by_cases e : a = p
            · exact .inl e
            · rw [if_neg e] at w
              exact .inr w
        cases own with
        | false =>
          intro v H' Hs' bk r'
          obtain ⟨f1, f2, _⟩ := fin bk
          exact k0 rfl v H' Hs' f1 (s1.trans f2) r'
        | true =>
          intro q H' Hs' bk ow' n m ne
          obtain ⟨f1, f2, f3⟩ := fin bk
          have nep : q ≠ p := ne 0 rfl
          have m : (if q = p then none else H1 q) = none := m
          rw [if_neg nep] at m
          refine k1 rfl q H' Hs' f1 (s1.trans f2) ow' n (I1.fm_none m) fun j kj dj hj hkj e => ?_
          rcases get_set hj with ⟨ej, hh⟩ | ⟨_, hh⟩
          · cases hh
            rw [ej, ov] at e
            cases e
            exact nep rfl
          · exact I1.apart m j kj dj hh hkj e
      · cases hf3
    · cases hf3
  · cases hf3
theorem de_callP (i : Nat) {kk : Nat} {ks : List Kd} {g : FN} {n y : Str} {es : List Expr} {fa : FA} {p pos py : Pos} (C : Kn X.prog X.w X.K X.mg X.base kk n (.pn :: ks) g) (hr : Room kk X.A) (ha : DA X es fa) (hN : X.N[i]? = some y := by rfl) (hvis : Vis X.env.scope y := by first | exact Or.inl rfl | exact Or.inr (Or.inl rfl) | exact Or.inr (Or.inr rfl)) (hd : (y == ("__debug__" : Str)) = false := by decide)
    (hcd : (y == ("__classdict__" : Str)) = false := by decide) (hg : Gl X n := by rfl) (hdb : (n == ("__debug__" : Str)) = false := by decide)
    (he : starEach (.Name y py :: es) X.env = (false, eval (.Name y py) X.env) :: starEach es X.env := by rfl) (hpl : (backTo pos (starEach es X.env)).any (·.1) = false := by rfl) : DE X (.Call (.Name n p) (.Name y py :: es) [] pos) (eCallP i ks g fa) := by
  obtain ⟨f, fd, ps, F, hm, kp, hb⟩ := C.ex
  refine imp (pe_call (E := E0) F hr hg hm kp hb .nil pass0 (da_cons (do_peek i hN hvis hd hcd) ha he) hdb he hpl) fun σ H Q h => ?_
  obtain ⟨x, env, Hs, d, env', I, hf, k⟩ := h
  obtain ⟨⟨own, d', e'⟩, h1, hf⟩ := Option.map_eq_some_iff.mp hf
  cases hf
  refine callRunP I h1 (fun _ v H' Hs' I' s' r => k v H' Hs' I' s' r) fun _ p H' Hs' I' s' ow n m ap => ?_
  obtain ⟨G, I2, s2, r⟩ := I'.freeze ow n m ap
  exact k _ H' G I2 (s'.trans s2) r
theorem df_callP (i : Nat) {kk : Nat} {ks : List Kd} {g : FN} {n y : Str} {es : List Expr} {fa : FA} {p pos py : Pos} (C : Kn X.prog X.w X.K X.mg X.base kk n (.pn :: ks) g) (hr : Room kk X.A) (ha : DA X es fa) (hN : X.N[i]? = some y := by rfl) (hvis : Vis X.env.scope y := by first | exact Or.inl rfl | exact Or.inr (Or.inl rfl) | exact Or.inr (Or.inr rfl)) (hd : (y == ("__debug__" : Str)) = false := by decide)
    (hcd : (y == ("__classdict__" : Str)) = false := by decide) (hg : Gl X n := by rfl) (hdb : (n == ("__debug__" : Str)) = false := by decide)
    (he : starEach (.Name y py :: es) X.env = (false, eval (.Name y py) X.env) :: starEach es X.env := by rfl) (hpl : (backTo pos (starEach es X.env)).any (·.1) = false := by rfl) : DF X (.Call (.Name n p) (.Name y py :: es) [] pos) (eCallPF i ks g fa) := by
  obtain ⟨f, fd, ps, F, hm, kp, hb⟩ := C.ex
  refine imp (pe_call (E := E0) F hr hg hm kp hb .nil pass0 (da_cons (do_peek i hN hvis hd hcd) ha he) hdb he hpl) fun σ H Q h => ?_
  obtain ⟨x, env, Hs, d, env', I, hf, k⟩ := h
  obtain ⟨⟨own, d', e'⟩, h1, hf⟩ := Option.bind_eq_some_iff.mp hf
  split at hf
  · rename_i ho
    cases hf
    have ho : own = true := ho
    subst ho
    exact callRunP I h1 (fun z => nomatch z) fun _ p H' Hs' I' s' ow n m ap => k p H' Hs' I' s' ow n m ap
  · cases hf
end
end Qd
namespace Qd
open PySem PySem.Spec L2
section
variable {X : Cx} {K : PySem.W.Frag}
/-- return x, x owned: the thing goes out -/
def sRetOw (i : Nat) : FS := fun env => match env[i]? with
  | some (some (.ow, d)) => some (.rt true d (env.set i none))
  | _ => none
theorem IV.forget {x : Fx} {env : En} {σ : L2.St} {Hs H : Hp} (i : Nat) (I : IV K x env σ Hs H) : IV K x (env.set i none) σ Hs H := by
  refine ⟨by rw [List.length_set, I.len], I.ex, I.fr, I.sep, I.h0, fun j e h1 => ?_, fun j k e h1 h2 => ?_, fun j l kj kl dj dl q hne h1 h2 h3 h4 h5 => ?_⟩
  · rcases get_set h1 with ⟨_, h⟩ | ⟨hj, h⟩
    · cases h
    · exact I.sh j e h
  · rcases get_set h1 with ⟨_, h⟩ | ⟨hj, h⟩
    · cases h
    · exact I.ow j k e h h2
  · rcases get_set h1 with ⟨_, h⟩ | ⟨hj, h⟩
    · cases h
    · rcases get_set h3 with ⟨_, h'⟩ | ⟨hl, h'⟩
      · cases h'
      · exact I.dj j l kj kl dj dl q hne h h2 h' h4 h5
theorem ds_retOw (i : Nat) {x : Str} {pos p2 : Pos} (hN : X.N[i]? = some x := by rfl) (hv : Vis X.env.scope x := by first | exact Or.inl rfl | exact Or.inr (Or.inl rfl) | exact Or.inr (Or.inr rfl)) (hd : (x == ("__debug__" : Str)) = false := by decide)
    (hcd : (x == ("__classdict__" : Str)) = false := by decide) : DS X (.Return (some (.Name x pos)) p2) (sRetOw i) := impS (ps_ret (do_peek i hN hv hd hcd)) fun Z σ H h => by
  obtain ⟨y, env, Hs, o, I, hf, k⟩ := h
  unfold sRetOw at hf
  split at hf
  · rename_i d hi
    cases hf
    refine ⟨y, env, Hs, .s i, env, I, by unfold oS; rw [hi], fun v H' Hs' I' s' r => ?_⟩
    have r : σ[i]? = some (some v) := r
    obtain ⟨p, a, b, c, ow, _⟩ := I'.ow i .ow d hi (by decide)
    rw [r] at a
    cases a
    refine k p σ H' Hs' (I'.forget i) s' ow b c fun j kj dj h1 h2 e => ?_
    rcases get_set h1 with ⟨_, h⟩ | ⟨hj, h⟩
    · cases h
    · exact I'.dj j i kj .ow dj d p hj h h2 hi (by decide) e r
  · cases hf
def indexD : D → List D → Option D
  | .lst ds, [d] => if flat d && ds.all flat then (ds.findIdx? fun e => eqB e d).map fun j => .int (j : Nat) else none
  | _, _ => none
theorem mv_index : MV K (rIndex K) indexD := by
  intro Hs H d ds z x xs ex p ps h
  match d, ds, h with
  | .lst es, [d], h =>
    obtain ⟨v, rfl, q⟩ := pks1 ps
    obtain ⟨a, vs, rfl, h2, h3⟩ := p
    have h : (if flat d && es.all flat then (es.findIdx? fun e => eqB e d).map fun j => D.int (j : Nat) else none) = some z := h
    split at h
    · rename_i hf
      simp only [Bool.and_eq_true] at hf
      obtain ⟨j, hj, h⟩ := Option.map_eq_some_iff.mp h
      cases h
      have r1 := q.rp ex
      obtain ⟨hlt, hp, hn⟩ := List.findIdx?_eq_some_iff_getElem.mp hj
      have hg : es[j]? = some es[j] := List.getElem?_eq_getElem hlt
      obtain ⟨w, hw, rw'⟩ := h3.get hg
      have fl : ∀ (m : Nat) (hm : m < es.length), flat es[m] = true := fun m hm => List.all_eq_true.mp hf.2 _ (List.getElem_mem hm)
      refine ⟨.int (j : Nat), by simp only [Rp], fun Q q => ⟨a, vs, v, j, w, rfl, rfl, SqL.of h2, flat_v (Hs := H) hf.1 r1, flats_v hf.2 h3, hw, ?_, fun m z' hm hz' => ?_, q⟩⟩
      · rw [eqV_eqB (fl j hlt) hf.1 rw' r1]
        exact hp
      · have hml : m < es.length := by omega
        obtain ⟨w', hw', rw2⟩ := h3.get (List.getElem?_eq_getElem hml)
        rw [hz'] at hw'
        cases hw'
        rw [eqV_eqB (fl m hml) hf.1 rw2 r1]
        have := hn m hm
        simpa using this
    · cases h
theorem room65 {k : Nat} {A : Around} (hr : Room k A) : A.units + 65 < cLine := by
  have := hr.un
  omega
theorem room64 {k : Nat} {A : Around} (hr : Room k A) : A.units + 64 < cLine := by
  have := hr.un
  omega
theorem room1 {k : Nat} {A : Around} (hr : Room k A) : A.units + 1 < cLine := by
  have := hr.un
  omega
end
section
variable {P : Program} {w : World} {K : PySem.W.Frag} {mg : Str → Option Value} {base : Heap}
theorem Kn.imp {k : Nat} {x : Str} {ks : List Kd} {g g' : FN} (C : Kn P w K mg base k x ks g) (h : ∀ ds r, g' ds = some r → g ds = some r) : Kn P w K mg base k x ks g' := by
  obtain ⟨f, fd, ps, F, a, b, c⟩ := C.ex
  refine ⟨f, fd, ps, F.imp fun vs H Q E q => ?_, a, b, c⟩
  obtain ⟨y, Hs, ds, r, h1, h2, h3, h4⟩ := q
  exact ⟨y, Hs, ds, r, h1, h2, h _ _ h3, h4⟩
theorem Kn.mono {j k : Nat} {x : Str} {ks : List Kd} {g : FN} (C : Kn P w K mg base j x ks g) (h : j ≤ k) : Kn P w K mg base k x ks g := by
  obtain ⟨f, fd, ps, F, a⟩ := C.ex
  exact ⟨f, fd, ps, F.mono h, a⟩
/-- a def that calls itself: its rule gives it depth by depth -/
theorem Kn.none {k : Nat} {x : Str} {ks : List Kd} {f : Addr} {fd : FuncData} {ps : List Str} (a : mg x = some (.ref f)) (b : PySem.W.keepIn K (.ref f) = true) (c : Binds K fd ps []) : Kn P w K mg base k x ks (fun _ => Option.none) :=
  ⟨f, fd, ps, { len := fun vs H Q E h => by
                  obtain ⟨_, _, _, _, _, _, h, _⟩ := h
                  cases h
                run := fun A outer s H args us vs Q E _ _ _ _ h => by
                  obtain ⟨_, _, _, _, _, _, h, _⟩ := h
                  cases h }, a, b, c⟩
def recN (G : FN → FN) : Nat → FN
  | 0 => fun _ => Option.none
  | n + 1 => G (recN G n)
theorem Kn.recur {x : Str} {ks : List Kd} {G : FN → FN} {m : Nat} (h0 : Kn P w K mg base m x ks fun _ => Option.none) (hs : ∀ k g, m ≤ k → Kn P w K mg base k x ks g → Kn P w K mg base (k + 1) x ks (G g)) : ∀ n, Kn P w K mg base (m + n) x ks (recN G n)
  | 0 => h0
  | n + 1 => hs (m + n) _ (by omega) (Kn.recur h0 hs n)
end
end Qd
namespace Qd
open PySem PySem.Spec L2
section
variable {X : Cx} {K : PySem.W.Frag}
theorem RpF.lookup {H : Hp} {f : Str} : ∀ {fs : List (Str × D)} {gs : List (Str × V)}, RpF K H fs gs → (fs.lookup f = none → gs.lookup f = none) ∧ ∀ d, fs.lookup f = some d → ∃ v, gs.lookup f = some v ∧ Rp K H d v
  | [], gs, r => by
    simp only [RpF] at r
    subst r
    exact ⟨fun _ => rfl, fun d h => by cases h⟩
  | (g, d) :: fs, gs, r => by
    simp only [RpF] at r
    obtain ⟨v, r', rfl, h1, h2⟩ := r
    have ih := RpF.lookup (f := f) h2
    simp only [List.lookup_cons]
    cases e : f == g with
    | true =>
      exact ⟨fun h => by simp at h, fun d' h => by
        simp only [Option.some.injEq] at h
        subst h
        exact ⟨v, rfl, h1⟩⟩
    | false => exact ih
theorem RpF.length {H : Hp} : ∀ {fs : List (Str × D)} {gs : List (Str × V)}, RpF K H fs gs → gs.length = fs.length
  | [], gs, r => by
    simp only [RpF] at r
    subst r
    rfl
  | (g, d) :: fs, gs, r => by
    simp only [RpF] at r
    obtain ⟨v, r', rfl, h1, h2⟩ := r
    simp [RpF.length h2]
def putFd (f : Str) (v : D) : List (Str × D) → List (Str × D)
  | [] => [(f, v)]
  | (g, x) :: r => if g = f then (g, v) :: r else (g, x) :: putFd f v r
theorem RpF.put {H : Hp} {f : Str} {d : D} {v : V} (rv : Rp K H d v) : ∀ {fs : List (Str × D)} {gs : List (Str × V)}, RpF K H fs gs → RpF K H (putFd f d fs) (putF f v gs)
  | [], gs, r => by
    simp only [RpF] at r
    subst r
    simp only [putFd, putF, RpF]
    exact ⟨v, [], rfl, rv, rfl⟩
  | (g, x) :: fs, gs, r => by
    simp only [RpF] at r
    obtain ⟨w, r', rfl, h1, h2⟩ := r
    simp only [putFd, putF]
    by_cases e : g = f
    · rw [if_pos e, if_pos e]
      simp only [RpF]
      exact ⟨v, r', rfl, rv, h2⟩
    · rw [if_neg e, if_neg e]
      simp only [RpF]
      exact ⟨w, _, rfl, h1, RpF.put rv h2⟩
/-- o.f -/
def eFld (c f : Str) (fo : FO) : FE := fun env => (fo env).bind fun p => match fetch p.2 p.1 with
  | some (.obj c' fs) => if c' = c then (fs.lookup f).map fun d => (d, p.2) else none
  | _ => none
theorem de_fld {c f : Str} {e : Expr} {fo : FO} {pos : Pos} (hc : Cls X.K (He.ga X.K c)) (hn : NoAttr X.K (He.ga X.K c) f) (h : DO X e fo) (hb : attributeBase e f X.env (eval e X.env) = eval e X.env := by rfl) : DE X (.Attribute e f pos) (eFld c f fo) := imp (pe_fld h hb) fun σ H Q h => by
  obtain ⟨x, env, Hs, d, env', I, hf, k⟩ := h
  obtain ⟨⟨o, e1⟩, h1, hf⟩ := Option.bind_eq_some_iff.mp hf
  have hf2 : (match fetch e1 o with
    | some (.obj c' fs) => if c' = c then (fs.lookup f).map fun d => (d, e1) else none
    | _ => none) = some (d, env') := hf
  clear hf
  split at hf2
  · rename_i c' fs hft
    split at hf2
    · rename_i hcc
      subst hcc
      obtain ⟨d', hl, hd'⟩ := Option.map_eq_some_iff.mp hf2
      cases hd'
      refine ⟨x, env, Hs, o, _, I, h1, fun v H1 Hs1 I1 s1 r1 => ?_⟩
      obtain ⟨a, dx, gs, rfl, hp, rf⟩ := I1.pk r1 hft
      obtain ⟨w, hw, rw⟩ := rf.lookup.2 _ hl
      exact ⟨a, _, dx, gs, w, rfl, hp, hc, hn, hw, k w H1 Hs1 I1 s1 rw⟩
    · cases hf2
  · cases hf2
/-- self.f = e, of an object that a slot owns -/
def sFd (i : Nat) (c f : Str) (fv : FE) : FS := fun env => (fv env).bind fun p => (oS i p.2).bind fun _ => match p.2[i]? with
  | some (some (k, .obj c' fs)) => if k = .sh ∨ c' ≠ c ∨ ¬ fs.length < 1000 then none else some (.nx (p.2.set i (some (k, .obj c' (putFd f p.1 fs)))))
  | _ => none
theorem ds_fld (i : Nat) {c f x : Str} {e : Expr} {fv : FE} {pos px ps : Pos} (hc : Cls X.K (He.ga X.K c)) (hn : NoAttr X.K (He.ga X.K c) f) (he : DE X e fv) (hN : X.N[i]? = some x := by rfl) (hvis : Vis X.env.scope x := by first | exact Or.inl rfl | exact Or.inr (Or.inl rfl) | exact Or.inr (Or.inr rfl)) (hd : (x == ("__debug__" : Str)) = false := by decide)
    (hcd : (x == ("__classdict__" : Str)) = false := by decide) (hs : swapsWith e (some (.Attribute (.Name x px) f ps)) pos.line X.env = pure false := by rfl) :
    DS X (.Assign [.Attribute (.Name x px) f ps] e pos) (sFd i c f fv) := impS (ps_fld (do_peek i hN hvis hd hcd) he hs) fun Z σ H h => by
  obtain ⟨y, env, Hs, o, I, hf, k⟩ := h
  obtain ⟨⟨d, e1⟩, h1, hf⟩ := Option.bind_eq_some_iff.mp hf
  obtain ⟨⟨o1, e1'⟩, h3, hf⟩ := Option.bind_eq_some_iff.mp hf
  have h3' : o1 = .s i ∧ e1' = e1 := by
    unfold oS at h3
    split at h3
    · cases h3
      exact ⟨rfl, rfl⟩
    · cases h3
  obtain ⟨rfl, rfl⟩ := h3'
  refine ⟨y, env, Hs, d, _, I, h1, fun v H1 Hs1 I1 s1 r1 => ⟨y, _, Hs1, .s i, _, I1, h3, fun w H2 Hs2 I2 s2 o2 => ?_⟩⟩
  have hf : (match e1'[i]? with
    | some (some (k, .obj c' fs)) => if k = .sh ∨ c' ≠ c ∨ ¬ fs.length < 1000 then none else some (Out.nx (e1'.set i (some (k, .obj c' (putFd f d fs)))))
    | _ => none) = some o := hf
  split at hf
  · rename_i kk c' fs hi2
    split at hf
    · cases hf
    · rename_i hkk
      cases hf
      have hkn : kk ≠ .sh := fun z => hkk (.inl z)
      have hcc : c' = c := Classical.byContradiction fun z => hkk (.inr (.inl z))
      subst hcc
      have hzz : fs.length < 1000 := Classical.byContradiction fun z => hkk (.inr (.inr z))
      have o2 : σ[i]? = some (some w) := o2
      obtain ⟨p, a, b, c, ow, _⟩ := I2.ow i kk (.obj c' fs) hi2 hkn
      rw [o2] at a
      cases a
      obtain ⟨dx, gs, hp, rw'⟩ := ow
      refine ⟨p, _, dx, gs, rfl, hp, hc, hn, by rw [rw'.length]; exact hzz, ?_⟩
      exact k σ _ Hs2 (I2.put hi2 hkn o2 ⟨dx, _, upd_same, RpF.put (Rp.mono s2 _ r1) rw'⟩) (s1.trans s2)
  · cases hf
/-- a method, known by what it does -/
structure Km (P : Program) (w : World) (K : PySem.W.Frag) (mg : Str → Option Value) (base : Heap) (k : Nat) (c m : Str) (ks : List Kd) (g : FN) : Prop where
  ex : ∃ f fd ps, FnOk P w K mg base CX0 k f fd ps (spD K ks g) ∧ Cls K (He.ga K c) ∧ Meth K (He.ga K c) m f ∧ Binds K fd ps []
theorem Km.mono {P : Program} {w : World} {mg : Str → Option Value} {base : Heap} {j k : Nat} {c m : Str} {ks : List Kd} {g : FN} (C : Km P w K mg base j c m ks g) (h : j ≤ k) : Km P w K mg base k c m ks g := by
  obtain ⟨f, fd, ps, F, a⟩ := C.ex
  exact ⟨f, fd, ps, F.mono h, a⟩
/-- behind the arguments, all shared -/
theorem coreV {ks : List Kd} {g : FN} {x : Fx} {env' : En} {σ : L2.St} {Hs1 H1 : Hp} {ds : List D} {vs : List V} {own : Bool} {d : D} {outs : List D} {Q : VK} {E : XK} (I1 : IV K x env' σ Hs1 H1) (hk : allSh ks = true) (hl : ds.length = ks.length) (rs : Rps K Hs1 ds vs) (hg : g ds = some (.ok own d outs))
    (k0 : own = false → ∀ v H' Hs', IV K x env' σ Hs' H' → Same Hs1 Hs' → Rp K Hs' d v → Q v H')
    (k1 : own = true → ∀ p H' Hs', IV K x env' σ Hs' H' → Same Hs1 Hs' → Own K Hs' H' p d → Hs' p = none → x.fm p = none → Apart env' σ p → Q (.ref p) H') : spD K ks g vs H1 Q E := by
  refine ⟨_, Hs1, ds, _, hl, IV.callee hk hl I1.ex rs, hg, ?_⟩
  cases own with
  | false =>
    intro v H' Hs' bk r'
    obtain ⟨b1, b2, b3, b4, _⟩ := bk
    exact k0 rfl v H' Hs' (I1.widen b3 b1 b2 b4) b1 r'
  | true =>
    intro p H' Hs' bk ow n m _
    obtain ⟨b1, b2, b3, b4, _⟩ := bk
    have m : H1 p = none := m
    exact k1 rfl p H' Hs' (I1.widen b3 b1 b2 b4) b1 ow n (I1.fm_none m) (I1.apart m)
/-- behind the arguments, the first one what a slot owns -/
theorem coreP {i : Nat} {kk : Kd} {ks : List Kd} {g : FN} {x : Fx} {e1 : En} {σ : L2.St} {Hs1 H1 : Hp} {d0 : D} {ds : List D} {p : Addr} {vs : List V} {own : Bool} {d d1 : D} {outs : List D} {Q : VK} {E : XK} (I1 : IV K x e1 σ Hs1 H1) (hi : e1[i]? = some (some (kk, d0))) (hk : kk ≠ .sh) (ov : σ[i]? = some (some (.ref p))) (hsh : allSh ks = true) (hl : ds.length = ks.length) (rs : Rps K Hs1 ds vs) (hg : g (d0 :: ds) = some (.ok own d (d1 :: outs)))
    (k0 : own = false → ∀ v H' Hs', IV K x (e1.set i (some (kk, d1))) σ Hs' H' → Same Hs1 Hs' → Rp K Hs' d v → Q v H')
    (k1 : own = true → ∀ q H' Hs', IV K x (e1.set i (some (kk, d1))) σ Hs' H' → Same Hs1 Hs' → Own K Hs' H' q d → Hs' q = none → x.fm q = none → Apart (e1.set i (some (kk, d1))) σ q → Q (.ref q) H') : spD K (.pn :: ks) g (.ref p :: vs) H1 Q E := by
  obtain ⟨p', a, b, c, ow, z⟩ := I1.ow i kk d0 hi hk
  rw [ov] at a
  cases a
  refine ⟨_, Hs1, d0 :: ds, _, by simp [hl], IV.calleeP hsh hl I1.ex rs b ow, hg, ?_⟩
  have fin : ∀ {H' Hs' : Hp}, Back K ⟨fun a => if a = p then none else H1 a, Hs1, fun _ => p⟩ (.pn :: ks) Hs1 Hs' H' (d1 :: outs) → IV K x (e1.set i (some (kk, d1))) σ Hs' H' ∧ Same Hs1 Hs' ∧ Hs' p = none := fun {H' Hs'} bk => by
    obtain ⟨b1, b2, b3, b4, b5⟩ := bk
    obtain ⟨d', hd', n1, ow'⟩ := b5 0 rfl
    cases hd'
    refine ⟨I1.after hi hk ov b1 b2 (fun a o ne h => b3 a o (by show (if a = p then none else H1 a) = some o; rw [if_neg ne]; exact h)) (fun a o h => ?_) n1 ow', b1, n1⟩
    rcases b4 a o h with w | w
    · exact .inl w
    · right
      have w : (if a = p then none else H1 a) = none := w
      by_cases e : a = p
      · exact .inl e
      · rw [if_neg e] at w
        exact .inr w
  cases own with
  | false =>
    intro v H' Hs' bk r'
    obtain ⟨f1, f2, _⟩ := fin bk
    exact k0 rfl v H' Hs' f1 f2 r'
  | true =>
    intro q H' Hs' bk ow' n m ne
    obtain ⟨f1, f2, f3⟩ := fin bk
    have nep : q ≠ p := ne 0 rfl
    have m : (if q = p then none else H1 q) = none := m
    rw [if_neg nep] at m
    refine k1 rfl q H' Hs' f1 f2 ow' n (I1.fm_none m) fun j kj dj hj hkj e => ?_
    rcases get_set hj with ⟨ej, hh⟩ | ⟨_, hh⟩
    · cases hh
      rw [ej, ov] at e
      cases e
      exact nep rfl
    · exact I1.apart m j kj dj hh hkj e
/-- o.m(e, ..) of a shared object -/
def exM (c m : Str) (ks : List Kd) (g : FN) (fr : FE) (fa : FA) (env : En) : Option (Bool × D × En) := (fr env).bind fun p => match p.1 with
  | .obj c' fs => if c' = c ∧ (fs.lookup m).isNone = true then (fa p.2).bind fun q => (allD q.1).bind fun ds => if allSh ks ∧ ds.length + 1 = ks.length then (g (.obj c' fs :: ds)).map fun r => match r with
    | .ok own d _ => (own, d, q.2) else none else none
  | _ => none
def eMeth (c m : Str) (ks : List Kd) (g : FN) (fr : FE) (fa : FA) : FE := fun env => (exM c m ks g fr fa env).map fun r => (r.2.1, r.2.2)
def eMethF (c m : Str) (ks : List Kd) (g : FN) (fr : FE) (fa : FA) : FE := fun env => (exM c m ks g fr fa env).bind fun r => if r.1 then some (r.2.1, r.2.2) else none
theorem methRun {c m : Str} {ks : List Kd} {g : FN} {fr : FE} {fa : FA} {x : Fx} {env env' : En} {σ : L2.St} {Hs H : Hp} {own : Bool} {d : D} {Q : VK} {E : XK} (I : IV K x env σ Hs H) (hf : exM c m ks g fr fa env = some (own, d, env'))
    (k0 : own = false → ∀ v H' Hs', IV K x env' σ Hs' H' → Same Hs Hs' → Rp K Hs' d v → Q v H')
    (k1 : own = true → ∀ p H' Hs', IV K x env' σ Hs' H' → Same Hs Hs' → Own K Hs' H' p d → Hs' p = none → x.fm p = none → Apart env' σ p → Q (.ref p) H') : tMeth (He.ga K c) m (spD K ks g) [] E (rd K fr) (rdA K fa) σ H Q := by
  unfold exM at hf
  obtain ⟨⟨o, e1⟩, h1, hf⟩ := Option.bind_eq_some_iff.mp hf
  cases o <;> try (cases hf; done)
  rename_i c' fs
  have hf2 : (if c' = c ∧ (fs.lookup m).isNone = true then (fa e1).bind fun q => (allD q.1).bind fun ds => if allSh ks ∧ ds.length + 1 = ks.length then (g (.obj c' fs :: ds)).map fun r => match r with
    | .ok own d _ => (own, d, q.2) else none else none) = some (own, d, env') := hf
  clear hf
  split at hf2
  · rename_i hcm
    obtain ⟨rfl, hno⟩ := hcm
    obtain ⟨⟨os, e2⟩, h2, hf3⟩ := Option.bind_eq_some_iff.mp hf2
    obtain ⟨ds, h3, hf4⟩ := Option.bind_eq_some_iff.mp hf3
    split at hf4
    · rename_i hc
      obtain ⟨r, h4, hf5⟩ := Option.map_eq_some_iff.mp hf4
      have e0 : os = ds.map Ov.d := allD_eq h3
      refine ⟨x, env, Hs, _, e1, I, h1, fun v H1 Hs1 I1 s1 r1 => ?_⟩
      have r1' := r1
      simp only [Rp] at r1
      obtain ⟨a, dx, gs, rfl, hp, rf⟩ := r1
      have hn : fs.lookup m = none := by simpa using hno
      refine ⟨a, dx, gs, rfl, I1.ex _ _ hp, rf.lookup.1 hn, x, e1, Hs1, os, e2, I1, h2, fun vs H2 Hs2 I2 s2 o2 => ?_⟩
      rw [e0] at o2
      have rs := o2.rps
      show spD K ks g (V.ref a :: (vs ++ [])) H2 Q E
      rw [List.append_nil]
      cases r with
      | ok own' d' outs =>
        cases hf5
        refine coreV I2 hc.1 (by simpa using hc.2) (ds := .obj c' fs :: ds) ?_ h4 (fun ho v H' Hs' I' s' r' => k0 ho v H' Hs' I' (s1.trans (s2.trans s')) r') fun ho p H' Hs' I' s' => k1 ho p H' Hs' I' (s1.trans (s2.trans s'))
        simp only [Rps]
        exact ⟨_, _, rfl, Rp.mono s2 _ r1', rs⟩
    · cases hf4
  · cases hf2
end
end Qd
namespace Qd
open PySem PySem.Spec L2
section
variable {X : Cx} {K : PySem.W.Frag}
theorem impDE {e : Expr} {t : TE} {f : FE} {ex : En → Option (Bool × D × En)} (h : PE X e t) (hf : ∀ env, f env = (ex env).map fun r => (r.2.1, r.2.2))
    (run : ∀ {x : Fx} {env env' : En} {σ : L2.St} {Hs H : Hp} {own : Bool} {d : D} {Q : VK}, IV X.K x env σ Hs H → ex env = some (own, d, env') →
      (own = false → ∀ v H' Hs', IV X.K x env' σ Hs' H' → Same Hs Hs' → Rp X.K Hs' d v → Q v H') →
      (own = true → ∀ p H' Hs', IV X.K x env' σ Hs' H' → Same Hs Hs' → Own X.K Hs' H' p d → Hs' p = none → x.fm p = none → Apart env' σ p → Q (.ref p) H') → t σ H Q) : DE X e f := imp h fun σ H Q h => by
  obtain ⟨x, env, Hs, d, env', I, h1, k⟩ := h
  rw [hf] at h1
  obtain ⟨⟨own, d', e'⟩, h2, h3⟩ := Option.map_eq_some_iff.mp h1
  cases h3
  refine run I h2 (fun _ v H' Hs' I' s' r => k v H' Hs' I' s' r) fun _ p H' Hs' I' s' ow n m ap => ?_
  obtain ⟨G, I2, s2, r⟩ := I'.freeze ow n m ap
  exact k _ H' G I2 (s'.trans s2) r
theorem impDF {e : Expr} {t : TE} {f : FE} {ex : En → Option (Bool × D × En)} (h : PE X e t) (hf : ∀ env, f env = (ex env).bind fun r => if r.1 then some (r.2.1, r.2.2) else none)
    (run : ∀ {x : Fx} {env env' : En} {σ : L2.St} {Hs H : Hp} {own : Bool} {d : D} {Q : VK}, IV X.K x env σ Hs H → ex env = some (own, d, env') →
      (own = false → ∀ v H' Hs', IV X.K x env' σ Hs' H' → Same Hs Hs' → Rp X.K Hs' d v → Q v H') →
      (own = true → ∀ p H' Hs', IV X.K x env' σ Hs' H' → Same Hs Hs' → Own X.K Hs' H' p d → Hs' p = none → x.fm p = none → Apart env' σ p → Q (.ref p) H') → t σ H Q) : DF X e f := imp h fun σ H Q h => by
  obtain ⟨x, env, Hs, d, env', I, h1, k⟩ := h
  rw [hf] at h1
  obtain ⟨⟨own, d', e'⟩, h2, h3⟩ := Option.bind_eq_some_iff.mp h1
  split at h3
  · rename_i ho
    cases h3
    have ho : own = true := ho
    subst ho
    exact run I h2 (fun z => nomatch z) fun _ p H' Hs' I' s' ow n m ap => k p H' Hs' I' s' ow n m ap
  · cases h3
section
variable {kk : Nat} {c m : Str} {ks : List Kd} {g : FN} {o e : Expr} {es : List Expr} {fr : FE} {fa : FA} {pos apos : Pos}
theorem de_meth {pl : Sem Bool} (C : Km X.prog X.w X.K X.mg X.base kk c m ks g) (hr : Room kk X.A) (ho : DE X o fr) (ha : DA X (e :: es) fa)
    (hst : starEach (e :: es) X.env = (false, eval e X.env) :: starEach es X.env := by rfl) (hpl : (backTo pos (starEach es X.env)).any (·.1) = false := by rfl)
    (ht : eval (.Call (.Attribute o m apos) (e :: es) [] pos) X.env = (do
      let ov ← eval o X.env
      standAt apos.atName
      let (f, first) ← holding [ov] (getMethod ov m pl)
      callWith pos f first (backTo pos (starEach (e :: es) X.env)) (backToKw pos (keywordEach [] X.env))) := by rfl) : DE X (.Call (.Attribute o m apos) (e :: es) [] pos) (eMeth c m ks g fr fa) := by
  obtain ⟨f, fd, ps, F, hc, hm, hb⟩ := C.ex
  exact impDE (ex := exM c m ks g fr fa) (pe_meth (E := E0) (pl := pl) ho hc hm F hr hb .nil pass0 ha hst hpl ht) (fun _ => rfl) methRun
theorem df_meth {pl : Sem Bool} (C : Km X.prog X.w X.K X.mg X.base kk c m ks g) (hr : Room kk X.A) (ho : DE X o fr) (ha : DA X (e :: es) fa)
    (hst : starEach (e :: es) X.env = (false, eval e X.env) :: starEach es X.env := by rfl) (hpl : (backTo pos (starEach es X.env)).any (·.1) = false := by rfl)
    (ht : eval (.Call (.Attribute o m apos) (e :: es) [] pos) X.env = (do
      let ov ← eval o X.env
      standAt apos.atName
      let (f, first) ← holding [ov] (getMethod ov m pl)
      callWith pos f first (backTo pos (starEach (e :: es) X.env)) (backToKw pos (keywordEach [] X.env))) := by rfl) : DF X (.Call (.Attribute o m apos) (e :: es) [] pos) (eMethF c m ks g fr fa) := by
  obtain ⟨f, fd, ps, F, hc, hm, hb⟩ := C.ex
  exact impDF (ex := exM c m ks g fr fa) (pe_meth (E := E0) (pl := pl) ho hc hm F hr hb .nil pass0 ha hst hpl ht) (fun _ => rfl) methRun
theorem tNil_rd {σ : L2.St} {H : Hp} {Q : List V → Hp → Prop} (h : rdA K aNil σ H Q) : tNil σ H Q := by
  obtain ⟨x, env, Hs, os, env', I, hf, k⟩ := h
  have hf : some (([] : List Ov), env) = some (os, env') := hf
  cases hf
  exact k [] H Hs I (Same.refl _) trivial
theorem de_meth0 {pl : Sem Bool} (C : Km X.prog X.w X.K X.mg X.base kk c m ks g) (hr : Room kk X.A) (ho : DE X o fr)
    (ht : eval (.Call (.Attribute o m apos) [] [] pos) X.env = (do
      let ov ← eval o X.env
      standAt apos.atName
      let (f, first) ← holding [ov] (getMethod ov m pl)
      callWith pos f first (backTo pos (starEach [] X.env)) (backToKw pos (keywordEach [] X.env))) := by rfl) : DE X (.Call (.Attribute o m apos) [] [] pos) (eMeth c m ks g fr aNil) := by
  obtain ⟨f, fd, ps, F, hc, hm, hb⟩ := C.ex
  refine impDE (ex := exM c m ks g fr aNil) (pe_meth0 (E := E0) (pl := pl) ho hc hm F hr hb .nil pass0 ht) (fun _ => rfl) fun I hf k0 k1 => ?_
  obtain ⟨x, env, Hs, d, env', I, h1, h2⟩ := methRun (E := E0) I hf k0 k1
  refine ⟨x, env, Hs, d, env', I, h1, fun v H' Hs' I' s' r => ?_⟩
  obtain ⟨a, dx, gs, e1, e2, e3, e4⟩ := h2 v H' Hs' I' s' r
  exact ⟨a, dx, gs, e1, e2, e3, tNil_rd e4⟩
theorem df_meth0 {pl : Sem Bool} (C : Km X.prog X.w X.K X.mg X.base kk c m ks g) (hr : Room kk X.A) (ho : DE X o fr)
    (ht : eval (.Call (.Attribute o m apos) [] [] pos) X.env = (do
      let ov ← eval o X.env
      standAt apos.atName
      let (f, first) ← holding [ov] (getMethod ov m pl)
      callWith pos f first (backTo pos (starEach [] X.env)) (backToKw pos (keywordEach [] X.env))) := by rfl) : DF X (.Call (.Attribute o m apos) [] [] pos) (eMethF c m ks g fr aNil) := by
  obtain ⟨f, fd, ps, F, hc, hm, hb⟩ := C.ex
  refine impDF (ex := exM c m ks g fr aNil) (pe_meth0 (E := E0) (pl := pl) ho hc hm F hr hb .nil pass0 ht) (fun _ => rfl) fun I hf k0 k1 => ?_
  obtain ⟨x, env, Hs, d, env', I, h1, h2⟩ := methRun (E := E0) I hf k0 k1
  refine ⟨x, env, Hs, d, env', I, h1, fun v H' Hs' I' s' r => ?_⟩
  obtain ⟨a, dx, gs, e1, e2, e3, e4⟩ := h2 v H' Hs' I' s' r
  exact ⟨a, dx, gs, e1, e2, e3, tNil_rd e4⟩
end
/-- self.m(e, ..), self what a slot owns -/
def exMP (i : Nat) (c m : Str) (ks : List Kd) (g : FN) (fa : FA) (env : En) : Option (Bool × D × En) := match env[i]? with
  | some (some (k0, .obj c' fs)) => if c' = c ∧ (fs.lookup m).isNone = true ∧ k0 ≠ .sh then (fa env).bind fun p => (allD p.1).bind fun ds => match p.2[i]? with
    | some (some (k, d0)) => if k ≠ .sh ∧ allSh ks ∧ ds.length = ks.length then match g (d0 :: ds) with
      | some (.ok own d (d1 :: _)) => some (own, d, p.2.set i (some (k, d1)))
      | _ => none else none
    | _ => none else none
  | _ => none
def eMethP (i : Nat) (c m : Str) (ks : List Kd) (g : FN) (fa : FA) : FE := fun env => (exMP i c m ks g fa env).map fun r => (r.2.1, r.2.2)
def eMethPF (i : Nat) (c m : Str) (ks : List Kd) (g : FN) (fa : FA) : FE := fun env => (exMP i c m ks g fa env).bind fun r => if r.1 then some (r.2.1, r.2.2) else none
theorem methRunP {i : Nat} {c m : Str} {ks : List Kd} {g : FN} {fa : FA} {x : Fx} {env env' : En} {σ : L2.St} {Hs H : Hp} {own : Bool} {d : D} {Q : VK} {E : XK} (I : IV K x env σ Hs H) (hf : exMP i c m ks g fa env = some (own, d, env'))
    (k0 : own = false → ∀ v H' Hs', IV K x env' σ Hs' H' → Same Hs Hs' → Rp K Hs' d v → Q v H')
    (k1 : own = true → ∀ p H' Hs', IV K x env' σ Hs' H' → Same Hs Hs' → Own K Hs' H' p d → Hs' p = none → x.fm p = none → Apart env' σ p → Q (.ref p) H') : tMeth (He.ga K c) m (spD K (.pn :: ks) g) [] E (rdO K (oS i)) (rdA K fa) σ H Q := by
  unfold exMP at hf
  split at hf
  · rename_i kk0 c' fs hi0
    split at hf
    · rename_i hcc
      obtain ⟨rfl, hno, hk0⟩ := hcc
      obtain ⟨⟨os, e1⟩, h1, hf2⟩ := Option.bind_eq_some_iff.mp hf
      obtain ⟨ds, h2, hf3⟩ := Option.bind_eq_some_iff.mp hf2
      clear hf hf2
      have hf4 : (match e1[i]? with
        | some (some (k, d0)) => if k ≠ .sh ∧ allSh ks ∧ ds.length = ks.length then match g (d0 :: ds) with
          | some (.ok own d (d1 :: _)) => some (own, d, e1.set i (some (k, d1)))
          | _ => none else none
        | _ => none) = some (own, d, env') := hf3
      clear hf3
      have hS : oS i env = some (.s i, env) := by
        unfold oS
        rw [hi0]
      split at hf4
      · rename_i kk d0 hi
        split at hf4
        · rename_i hc
          obtain ⟨hk, hsh, hl⟩ := hc
          split at hf4
          · rename_i own' d' d1 outs hg
            cases hf4
            have e0 : os = ds.map Ov.d := allD_eq h2
            refine ⟨x, env, Hs, .s i, env, I, hS, fun v H1 Hs1 I1 s1 o1 => ?_⟩
            have o1 : σ[i]? = some (some v) := o1
            obtain ⟨p, a, b, c0, ow, _⟩ := I1.ow i kk0 (.obj c' fs) hi0 hk0
            rw [o1] at a
            cases a
            obtain ⟨dx, gs, hp, rf⟩ := ow
            have hn : fs.lookup m = none := by simpa using hno
            refine ⟨p, dx, gs, rfl, hp, rf.lookup.1 hn, x, env, Hs1, os, e1, I1, h1, fun vs H2 Hs2 I2 s2 o2 => ?_⟩
            rw [e0] at o2
            have rs := o2.rps
            show spD K (.pn :: ks) g (V.ref p :: (vs ++ [])) H2 Q E
            rw [List.append_nil]
            exact coreP I2 hi hk o1 hsh hl rs hg (fun ho v H' Hs' I' s' r' => k0 ho v H' Hs' I' (s1.trans (s2.trans s')) r') fun ho p H' Hs' I' s' => k1 ho p H' Hs' I' (s1.trans (s2.trans s'))
          · cases hf4
        · cases hf4
      · cases hf4
    · cases hf
  · cases hf
section
variable {kk : Nat} {c m y : Str} {ks : List Kd} {g : FN} {e : Expr} {es : List Expr} {fa : FA} {pos apos py : Pos}
theorem de_methP (i : Nat) {pl : Sem Bool} (C : Km X.prog X.w X.K X.mg X.base kk c m (.pn :: ks) g) (hr : Room kk X.A) (ha : DA X (e :: es) fa) (hN : X.N[i]? = some y := by rfl) (hvis : Vis X.env.scope y := by first | exact Or.inl rfl | exact Or.inr (Or.inl rfl) | exact Or.inr (Or.inr rfl)) (hd : (y == ("__debug__" : Str)) = false := by decide)
    (hcd : (y == ("__classdict__" : Str)) = false := by decide)
    (hst : starEach (e :: es) X.env = (false, eval e X.env) :: starEach es X.env := by rfl) (hpl : (backTo pos (starEach es X.env)).any (·.1) = false := by rfl)
    (ht : eval (.Call (.Attribute (.Name y py) m apos) (e :: es) [] pos) X.env = (do
      let ov ← eval (.Name y py) X.env
      standAt apos.atName
      let (f, first) ← holding [ov] (getMethod ov m pl)
      callWith pos f first (backTo pos (starEach (e :: es) X.env)) (backToKw pos (keywordEach [] X.env))) := by rfl) : DE X (.Call (.Attribute (.Name y py) m apos) (e :: es) [] pos) (eMethP i c m ks g fa) := by
  obtain ⟨f, fd, ps, F, hc, hm, hb⟩ := C.ex
  exact impDE (ex := exMP i c m ks g fa) (pe_meth (E := E0) (pl := pl) (do_peek i hN hvis hd hcd) hc hm F hr hb .nil pass0 ha hst hpl ht) (fun _ => rfl) methRunP
theorem df_methP (i : Nat) {pl : Sem Bool} (C : Km X.prog X.w X.K X.mg X.base kk c m (.pn :: ks) g) (hr : Room kk X.A) (ha : DA X (e :: es) fa) (hN : X.N[i]? = some y := by rfl) (hvis : Vis X.env.scope y := by first | exact Or.inl rfl | exact Or.inr (Or.inl rfl) | exact Or.inr (Or.inr rfl)) (hd : (y == ("__debug__" : Str)) = false := by decide)
    (hcd : (y == ("__classdict__" : Str)) = false := by decide)
    (hst : starEach (e :: es) X.env = (false, eval e X.env) :: starEach es X.env := by rfl) (hpl : (backTo pos (starEach es X.env)).any (·.1) = false := by rfl)
    (ht : eval (.Call (.Attribute (.Name y py) m apos) (e :: es) [] pos) X.env = (do
      let ov ← eval (.Name y py) X.env
      standAt apos.atName
      let (f, first) ← holding [ov] (getMethod ov m pl)
      callWith pos f first (backTo pos (starEach (e :: es) X.env)) (backToKw pos (keywordEach [] X.env))) := by rfl) : DF X (.Call (.Attribute (.Name y py) m apos) (e :: es) [] pos) (eMethPF i c m ks g fa) := by
  obtain ⟨f, fd, ps, F, hc, hm, hb⟩ := C.ex
  exact impDF (ex := exMP i c m ks g fa) (pe_meth (E := E0) (pl := pl) (do_peek i hN hvis hd hcd) hc hm F hr hb .nil pass0 ha hst hpl ht) (fun _ => rfl) methRunP
end
/-- a class, known by what its __init__ does -/
structure Kc (P : Program) (w : World) (K : PySem.W.Frag) (mg : Str → Option Value) (base : Heap) (k : Nat) (c : Str) (ks : List Kd) (g : FN) : Prop where
  ex : ∃ f fd ps, FnOk P w K mg base CX0 k f fd ps (spD K (.pn :: ks) g) ∧ Mk K (He.ga K c) f ∧ mg c = some (.ref (He.ga K c)) ∧ Binds K fd ps []
/-- C(e, ..) -/
def eNew (c : Str) (ks : List Kd) (g : FN) (fa : FA) : FE := fun env => (fa env).bind fun p => (allD p.1).bind fun ds => if allSh ks ∧ ds.length = ks.length then match g (.obj c [] :: ds) with
  | some (.ok false .non (d1 :: _)) => some (d1, p.2)
  | _ => none else none
theorem df_new {kk : Nat} {c : Str} {ks : List Kd} {g : FN} {e : Expr} {es : List Expr} {fa : FA} {p pos : Pos} (C : Kc X.prog X.w X.K X.mg X.base kk c ks g) (hr : Room (kk + 1) X.A) (ha : DA X (e :: es) fa) (hg : Gl X c := by rfl) (hdb : (c == ("__debug__" : Str)) = false := by decide)
    (he : starEach (e :: es) X.env = (false, eval e X.env) :: starEach es X.env := by rfl) (hpl : (backTo pos (starEach es X.env)).any (·.1) = false := by rfl) : DF X (.Call (.Name c p) (e :: es) [] pos) (eNew c ks g fa) := by
  obtain ⟨f, fd, ps, F, M, hm, hb⟩ := C.ex
  refine imp (pe_make (E := E0) M F hr hg hm hb .nil pass0 ha hdb he hpl) fun σ H Q h => ?_
  obtain ⟨x, env, Hs, d, env', I, hf, k⟩ := h
  obtain ⟨⟨os, e1⟩, h1, hf2⟩ := Option.bind_eq_some_iff.mp hf
  obtain ⟨ds, h2, hf3⟩ := Option.bind_eq_some_iff.mp hf2
  clear hf hf2
  split at hf3
  · rename_i hc
    split at hf3
    · rename_i d1 outs hgd
      cases hf3
      have e0 : os = ds.map Ov.d := allD_eq h2
      refine ⟨x, env, Hs, os, _, I, h1, fun vs H1 Hs1 I1 s1 o1 q dx hq hdx hne => ?_⟩
      rw [e0] at o1
      have rs := o1.rps
      show spD X.K (.pn :: ks) g (V.ref q :: (vs ++ [])) (upd (upd H1 dx (.own q)) q (.ins (He.ga X.K c) dx [])) (fun v H2 => v = .non ∧ Q (.ref q) H2) E0
      rw [List.append_nil]
      have hq2 : upd H1 dx (.own q) q = none := by rw [upd_ne (fun z => hne z.symm)]; exact hq
      have sm : Same H1 (upd (upd H1 dx (.own q)) q (.ins (He.ga X.K c) dx [])) := (same_new hdx).trans (same_new hq2)
      refine ⟨_, Hs1, .obj c [] :: ds, _, by simp [hc.2], IV.calleeP (p := q) hc.1 hc.2 (I1.ex.trans sm) rs (I1.hs_none hq) ⟨dx, [], upd_same, by simp only [RpF]⟩, hgd, ?_⟩
      intro v H' Hs' bk r'
      obtain ⟨b1, b2, b3, b4, b5⟩ := bk
      obtain ⟨d', hd', n1, ow'⟩ := b5 0 rfl
      cases hd'
      have rv : v = .non := by simpa only [Rp] using r'
      have s3 : Same H1 H' := fun a o ha => b3 a o (by
        have ne : a ≠ q := fun z => by
          rw [z, hq] at ha
          cases ha
        show (if a = q then none else _) = some o
        rw [if_neg ne]
        exact sm a o ha)
      refine ⟨rv, k q H' Hs' (I1.widen s3 b1 b2 fun a o hh => ?_) (s1.trans b1) ow' n1 (I1.fm_none hq) (I1.apart hq)⟩
      rcases b4 a o hh with w | w
      · exact .inl w
      · have w : (if a = q then none else (upd (upd H1 dx (.own q)) q (.ins (He.ga X.K c) dx [])) a) = none := w
        by_cases e : a = q
        · rw [e]
          exact .inr hq
        · rw [if_neg e, upd_ne e] at w
          by_cases e2 : a = dx
          · rw [e2]
            exact .inr hdx
          · rw [upd_ne e2] at w
            exact .inr w
    · cases hf3
  · cases hf3
end
end Qd
namespace Qd
open PySem PySem.Spec L2
/-- a statement that is never come to -/
def sNo : FS := fun _ => none
theorem ds_no {X : Cx} {s : Stmt} : DS X s sNo := ⟨fun pins s σ H Z I h => by
  obtain ⟨_, _, _, _, _, h, _⟩ := h
  cases h⟩
end Qd
namespace Qd
open PySem PySem.Spec L2
section
variable {X : Cx} {K : PySem.W.Frag}
def rEqM (C : Addr) (sp : Sp) : R2 := fun x y H Q => ∃ a b dx dy fs gs, x = .ref a ∧ y = .ref b ∧ H a = some (.ins C dx fs) ∧ H b = some (.ins C dy gs) ∧ sp [x, y] H (fun v H' => (∃ t, v = .bl t) ∧ Q v H') E0
theorem op_eqM {k : Nat} {f C : Addr} {fd : FuncData} {ps : List Str} {sp : Sp} (F : FnOk X.prog X.w X.K X.mg X.base CX0 k f fd ps sp) (hm : Meth X.K C "__eq__" f) (hr : Room k X.A) (hb : Binds X.K fd ps []) : OpR X (compareOp .Eq) (rEqM C sp) := by
  intro pins s σ H x y v u Q I rx ry d
  obtain ⟨a, b, dx, dy, fs, gs, rfl, rfl, ha, hb', hsp⟩ := d
  cases rx
  cases ry
  show wpAny (model X.prog X.w) X.A (richCompare .Eq (.ref a) (.ref b)) (EP X pins σ Q) X.xe s
  obtain ⟨mA, J, _⟩ := ins_get I.hok ha
  obtain ⟨mB, J', _⟩ := ins_get I.hok hb'
  obtain ⟨od, J, _⟩ := J.look
  obtain ⟨od', J', _⟩ := J'.look
  obtain ⟨m, hF⟩ := I.fr
  refine PySem.W.cmp_K (op := .Eq) (tb := .ref C) hr.units0 hF I.ok.mod.kin J J'.type (by simp [PySem.W.notFirst]) hm.at_ hm.fn ?_
  have hl := F.len _ _ _ _ hsp
  have r2 : Vals [V.ref a, V.ref b] [Value.ref a, Value.ref b] := .cons rfl (.cons rfl .nil)
  refine wpAny_call (codeAny_mono (F.run X.A X.stack s H ⟨[.ref a, .ref b], []⟩ [.ref a, .ref b] [.ref a, .ref b] _ E0 hr I.env0 (by
    have := hb s [.ref a, .ref b] I.kIn (by simpa using hl)
    simpa using this) r2 hsp) fun r s' hq => ?_)
  cases r with
  | error e => exact False.elim hq
  | ok fl =>
    cases fl with
    | ret w =>
      obtain ⟨z, H', I', rz, ⟨t, ez⟩, hQ⟩ := I.after hq
      subst ez
      cases rz
      exact ⟨.bl t, H', I', rfl, hQ⟩
    | next => exact False.elim hq
    | brk => exact False.elim hq
    | cont => exact False.elim hq
def exEq (c : Str) (g : FN) (fa fb : FE) (env : En) : Option (D × En) := (fa env).bind fun p => (fb p.2).bind fun q => match p.1, q.1 with
  | .obj c1 fs, .obj c2 gs => if c1 = c ∧ c2 = c then match g [.obj c1 fs, .obj c2 gs] with
    | some (.ok false (.bl t) _) => some (.bl t, q.2)
    | _ => none else none
  | _, _ => none
theorem eqRun {c : Str} {g : FN} {fa fb : FE} {x : Fx} {env env' : En} {σ : L2.St} {Hs H : Hp} {d : D} {Q : VK} (I : IV K x env σ Hs H) (hf : exEq c g fa fb env = some (d, env'))
    (k : ∀ v H' Hs', IV K x env' σ Hs' H' → Same Hs Hs' → Rp K Hs' d v → Q v H') : rd K fa σ H fun v H1 => rd K fb σ H1 fun w H2 => rEqM (He.ga K c) (spD K [.sh, .sh] g) v w H2 Q := by
  unfold exEq at hf
  obtain ⟨⟨d1, e1⟩, h1, hf1⟩ := Option.bind_eq_some_iff.mp hf
  obtain ⟨⟨d2, e2⟩, h2, hf2⟩ := Option.bind_eq_some_iff.mp hf1
  clear hf hf1
  cases d1 <;> try (cases hf2; done)
  rename_i c1 fs
  cases d2 <;> try (cases hf2; done)
  rename_i c2 gs
  have hf3 : (if c1 = c ∧ c2 = c then match g [.obj c1 fs, .obj c2 gs] with
    | some (.ok false (.bl t) _) => some (D.bl t, e2)
    | _ => none else none) = some (d, env') := hf2
  clear hf2
  split at hf3
  · rename_i hcc
    obtain ⟨rfl, rfl⟩ := hcc
    split at hf3
    · rename_i t outs hg
      cases hf3
      refine ⟨x, env, Hs, _, e1, I, h1, fun v H1 Hs1 I1 s1 r1 => ⟨x, e1, Hs1, _, _, I1, h2, fun w H2 Hs2 I2 s2 r2 => ?_⟩⟩
      have r1' := Rp.mono s2 _ r1
      have q1 := r1'
      have q2 := r2
      simp only [Rp] at q1 q2
      obtain ⟨a, dx, gs1, rfl, hp, rf⟩ := q1
      obtain ⟨b, dy, gs2, rfl, hp2, rf2⟩ := q2
      refine ⟨a, b, dx, dy, gs1, gs2, rfl, rfl, I2.ex _ _ hp, I2.ex _ _ hp2, coreV I2 rfl rfl (ds := [.obj c2 fs, .obj c2 gs]) (by simp only [Rps]; exact ⟨_, _, rfl, r1', _, _, rfl, r2, rfl⟩) hg (fun _ v H' Hs' I' s' r' => ⟨⟨t, by simpa only [Rp] using r'⟩, k v H' Hs' I' (s1.trans (s2.trans s')) r'⟩) fun z => nomatch z⟩
    · cases hf3
  · cases hf3
theorem de_eqO {kk : Nat} {c : Str} {g : FN} {a b : Expr} {fa fb : FE} {pos : Pos} (C : Km X.prog X.w X.K X.mg X.base kk c "__eq__" [.sh, .sh] g) (hr : Room kk X.A) (ha : DE X a fa) (hb : DE X b fb) : DE X (.Compare a [.Eq] [b] pos) (exEq c g fa fb) := by
  obtain ⟨f, fd, ps, F, hc, hm, hbn⟩ := C.ex
  refine imp (pe_cmpR (op_eqM F hm hr hbn) ha hb (nomark _)) fun σ H Q h => ?_
  obtain ⟨x, env, Hs, d, env', I, hf, k⟩ := h
  exact eqRun I hf k
theorem dt_eqO {kk : Nat} {c : Str} {g : FN} {a b : Expr} {fa fb : FE} {pos : Pos} (C : Km X.prog X.w X.K X.mg X.base kk c "__eq__" [.sh, .sh] g) (hr : Room kk X.A) (ha : DE X a fa) (hb : DE X b fb) : DT X (.Compare a [.Eq] [b] pos) (exEq c g fa fb) := by
  obtain ⟨f, fd, ps, F, hc, hm, hbn⟩ := C.ex
  refine impT (pt_cmpR (op_eqM F hm hr hbn) ha hb (nomark _)) fun σ H Q h => ?_
  obtain ⟨x, env, Hs, t, env', I, hf, k⟩ := h
  exact eqRun I hf fun v H' Hs' I' s' r => ⟨t, by simpa only [Rp] using r, k H' Hs' I' s'⟩
end
end Qd
namespace Qd
open PySem PySem.Spec L2
section
variable {X : Cx} {K : PySem.W.Frag}
theorem de_cls (c : Str) {pos : Pos} (hm : X.mg c = some (.ref (He.ga X.K c))) (hg : Gl X c := by rfl) (hdb : (c == ("__debug__" : Str)) = false := by decide) : DE X (.Name c pos) (eK (.cls c)) := imp (pe_glob (v := .ref (He.ga X.K c)) hg hm rfl hdb) fun σ H Q h => by
  obtain ⟨y, env, Hs, d, env', I, hf, k⟩ := h
  cases hf
  exact k _ H Hs I (Same.refl _) (by simp only [Rp])
def isoD (c : Str) : List D → Option D
  | [.obj c' _, .cls e] => if c' = c ∧ e = c then some (.bl true) else none
  | _ => none
theorem cv_iso {c : Str} (ic : C8.InsC K (He.ga K c)) : CV K (rIsi K) (isoD c) := by
  intro Hs H ds z vs ex ps h
  unfold isoD at h
  split at h
  · rename_i c' fs e
    obtain ⟨v, w, rfl, p, q⟩ := pks2 ps
    split at h
    · rename_i hcc
      obtain ⟨rfl, rfl⟩ := hcc
      cases h
      cases (show w = .ref (He.ga K e) from q)
      obtain ⟨a, dx, gs, rfl, hp, rf⟩ := p
      exact ⟨.bl true, by simp only [Rp], fun Q q => ⟨.ref a, .ref (He.ga K e), .ref (He.ga K e), .ref (He.ga K e), true, rfl, .own _, .base (.ins hp ic.cl ic.ha ic.hn ic.htk ic.hm), ic.me, q⟩⟩
    · cases h
  · cases h
theorem isoD_eq (c : Str) (fs : List (Str × D)) : isoD c [.obj c fs, .cls c] = some (.bl true) := if_pos ⟨rfl, rfl⟩
end
end Qd
namespace Qd
open PySem PySem.Spec L2
abbrev XFa := PySem.W.Frag → Bool
abbrev AlX : Type := Bool × He.AlD
def obsX (n : Nat) (xf : List XFa) (fa : List He.Fa) (fn : List He.DefD) (g : Addr → Option Obj) : AlX := (xf.all fun f => f (He.frG g (He.asD g n)), He.obsDG n fa fn g)
def SaysX (xf : List XFa) (fa : List He.Fa) (fn : List He.DefD) (K : PySem.W.Frag) : Prop := (xf.all fun f => f K) = true ∧ He.SaysD fa fn K
def hookX (n : Nat) (xf : List XFa) (fa : List He.Fa) (fn : List He.DefD) : PySem.W.Hook where
  α := AlX
  obs := fun s => obsX n xf fa fn s.heap.get?
  val := fun _ => (true, He.valD fn)
  says := fun _ h => ∃ K : PySem.W.Frag, K.In h ∧ SaysX xf fa fn K
  of := fun _ _ e => ⟨_, He.frG_in, congrArg (fun z : AlX => z.1) e, congrArg (fun z : AlX => z.2) e⟩
  keeps := fun _ _ _ ⟨K, hK, c⟩ k => ⟨K, PySem.W.Frag.In.keeps hK k, c⟩
theorem obsX_eq {n : Nat} {xf : List XFa} {fa : List He.Fa} {fn : List He.DefD} {g : Addr → Option Obj} {s : Shared} (h : ∀ a, g a = s.heap.get? a) : obsX n xf fa fn g = (hookX n xf fa fn).obs s := by
  have e : g = s.heap.get? := funext h
  rw [e] <;> rfl
theorem SaysX.x {xf : List XFa} {fa : List He.Fa} {fn : List He.DefD} {K : PySem.W.Frag} (c : SaysX xf fa fn K) (i : Nat) {f : XFa} (h : xf[i]? = some f := by rfl) : f K = true := List.all_eq_true.mp c.1 f (List.mem_of_getElem? h)
/-- what isinstance wants of an own class -/
def insB (c : Str) : XFa := fun K => He.eqO (PySem.W.findIn K (.ref (He.ga K c)) "__class__") (some (some (.builtin "object.__class__"))) && (decide (PySem.W.specialIn K (.builtin "object.__class__") "__get__" = some (some (.builtin "getset_descriptor.__get__"))) &&
  (decide (PySem.W.takesIn K (.builtin "object.__class__") = some true) && (decide (PySem.W.mroIn K (He.ga K c) (.type "object") = some true) && decide (PySem.W.kitOne K (.ref (He.ga K c)) (.ref (He.ga K c)) = some true))))
theorem insB_ok {c : Str} {K : PySem.W.Frag} (cl : Cls K (He.ga K c)) (h : insB c K = true) : C8.InsC K (He.ga K c) := by
  obtain ⟨h1, h⟩ := He.ba h
  obtain ⟨h2, h⟩ := He.ba h
  obtain ⟨h3, h⟩ := He.ba h
  obtain ⟨h4, h5⟩ := He.ba h
  exact ⟨cl, He.eqO_ok h1, of_decide_eq_true h2, of_decide_eq_true h3, of_decide_eq_true h4, of_decide_eq_true h5⟩
end Qd
namespace Lw
open PySem PySem.Spec L2 Qd
def FU : Nat := 1000000
def topS (i : Nat) : Stmt := PySem.Challenge.pw_headswap_k07_whole_rows_in_order.main.body.getD i (.Pass ⟨0, 0, 0, 0⟩)
def clsS (s : Stmt) (j : Nat) : Stmt := match s with
  | .ClassDef _ _ _ b _ _ _ _ _ _ _ => b.getD j (.Pass ⟨0, 0, 0, 0⟩)
  | s => s
structure Gm (K : PySem.W.Frag) (mg : Str → Option Value) : Prop where
  m_all : mg "all" = none
  m_len : mg "len" = none
  m_range : mg "range" = none
  m_max : mg "max" = none
  m_isinstance : mg "isinstance" = none
  m_list : mg "list" = none
  m_int : mg "int" = none
  m_bool : mg "bool" = none
  m_str : mg "str" = none
  m_tuple : mg "tuple" = none
  c_SIGNS : ∃ t, mg "SIGNS" = some (.str (S [48, 49]) t)
  c_LONGEST : ∃ t, mg "LONGEST" = some (.int 60 t)
  k_Endless : Cls K (He.ga K "Endless")
  n_Endless_begun : NoAttr K (He.ga K "Endless") "begun"
  n_Endless_round : NoAttr K (He.ga K "Endless") "round"
  v_Endless : mg "Endless" = some (.ref (He.ga K "Endless"))
  i_Endless : C8.InsC K (He.ga K "Endless")
def F_is_signs : FS :=
  sRet (eA allB (aCons (oE (eLc (iS (oE (eVar 0))) [1] (gN 1) (eK (.bl true)) (eOp2 inD (oS 1) (oE (eK (.str [48, 49])))))) aNil))
abbrev st_is_signs : Stmt := topS 9
theorem sc_is_signs : FnScope ["text", "sign"] ["text"] (defScope st_is_signs) := ⟨rfl, rfl, rfl, by decide +kernel, rfl, by decide +kernel, by decide +kernel⟩
theorem ok_is_signs {P : Program} {w : World} {K : PySem.W.Frag} {mg : Str → Option Value} {base : Heap} {k : Nat} {f : Addr} {fd : FuncData} (G : Gm K mg) (FD : FunD K "is_signs" "is_signs" (defArgs st_is_signs) (defBody st_is_signs) (defScope st_is_signs) [] [] f fd) (a : mg "is_signs" = some (.ref f))  :
    Kn P w K mg base (k + 1) "is_signs" [.sh] (fnF [.sh] 1 F_is_signs) := by
  refine ⟨f, fd, ["text"], fn_ok FD sc_is_signs rfl (by decide) (fun cdv A outer s H E hr => ?_) (fun ds r h => h), a, FD.kp, FD.bindsN fun _ _ _ _ _ _ us hl => match us, hl with | [_], _ => rfl⟩
  have nd := sc_is_signs.nd
  unfold F_is_signs
  exact dss_one (ds_ret (de_callB (cr_all rfl) cv_all G.m_all (by decide +kernel) (da_cons (do_of (de_frz (df_lc [("sign", 1)] rfl nd (di_str (do_of (de_var 0))) (blkOk_by (by first | rfl | decide +kernel)) (fun _ _ _ _ _ => dg_name 1 nd) (fun _ _ _ _ _ => dts_nil) (fun _ _ _ _ _ => de_cmp2 (op_inX (room65 hr)) ov_in (do_peek 1) (do_of (de_gloS [48, 49] G.c_SIGNS.choose_spec)) (by rfl))))) da_nil)))
def F_is_head (g_is_signs : FN) : FS :=
  sRet (eAnd (eOp2 leD (oE (eA lenD (aCons (oS 0) aNil))) (oE (eK (.int 60)))) (eCall [.sh] g_is_signs (aCons (oE (eVar 0)) aNil)))
abbrev st_is_head : Stmt := topS 10
theorem sc_is_head : FnScope ["text"] ["text"] (defScope st_is_head) := ⟨rfl, rfl, rfl, by decide +kernel, rfl, by decide +kernel, by decide +kernel⟩
theorem ok_is_head {P : Program} {w : World} {K : PySem.W.Frag} {mg : Str → Option Value} {base : Heap} {k : Nat} {f : Addr} {fd : FuncData} (G : Gm K mg) (FD : FunD K "is_head" "is_head" (defArgs st_is_head) (defBody st_is_head) (defScope st_is_head) [] [] f fd) (a : mg "is_head" = some (.ref f)) {g_is_signs : FN} (C_is_signs : Kn P w K mg base k "is_signs" [.sh] g_is_signs) :
    Kn P w K mg base (k + 1) "is_head" [.sh] (fnF [.sh] 0 (F_is_head g_is_signs)) := by
  refine ⟨f, fd, ["text"], fn_ok FD sc_is_head rfl (by decide) (fun cdv A outer s H E hr => ?_) (fun ds r h => h), a, FD.kp, FD.bindsN fun _ _ _ _ _ _ us hl => match us, hl with | [_], _ => rfl⟩
  have nd := sc_is_head.nd
  unfold F_is_head
  exact dss_one (ds_ret (de_and (de_cmp2 op_leD ov_le (do_of (de_callB cr_lenX cv_len G.m_len (by decide +kernel) (da_cons (do_peek 0) da_nil))) (do_of (de_gloI 60 G.c_LONGEST.choose_spec)) (nomark _)) (de_one (de_call C_is_signs hr (da_cons (do_of (de_var 0)) da_nil)))))
def F_need_head (g_is_head : FN) : FS :=
  sIf (eNot (eCall [.sh] g_is_head (aCons (oE (eVar 0)) aNil))) sNo sNil
abbrev st_need_head : Stmt := topS 11
theorem sc_need_head : FnScope ["text"] ["text"] (defScope st_need_head) := ⟨rfl, rfl, rfl, by decide +kernel, rfl, by decide +kernel, by decide +kernel⟩
theorem ok_need_head {P : Program} {w : World} {K : PySem.W.Frag} {mg : Str → Option Value} {base : Heap} {k : Nat} {f : Addr} {fd : FuncData} (G : Gm K mg) (FD : FunD K "need_head" "need_head" (defArgs st_need_head) (defBody st_need_head) (defScope st_need_head) [] [] f fd) (a : mg "need_head" = some (.ref f)) {g_is_head : FN} (C_is_head : Kn P w K mg base k "is_head" [.sh] g_is_head) :
    Kn P w K mg base (k + 1) "need_head" [.sh] (fnF [.sh] 0 (F_need_head g_is_head)) := by
  refine ⟨f, fd, ["text"], fn_ok FD sc_need_head rfl (by decide) (fun cdv A outer s H E hr => ?_) (fun ds r h => h), a, FD.kp, FD.bindsN fun _ _ _ _ _ _ us hl => match us, hl with | [_], _ => rfl⟩
  have nd := sc_need_head.nd
  unfold F_need_head
  exact dss_one (ds_if (dt_not (dt_of (de_call C_is_head hr (da_cons (do_of (de_var 0)) da_nil)))) (dss_one ds_no) dss_nil)
def F_shortest_ring : FS :=
  sSeq (sFor (iR2 (eK (.int 1)) (eA lenD (aCons (oS 0) aNil))) (gN 1) (sIf (eAnd (eOp2 eqD (oE (eOp2 modD (oE (eA lenD (aCons (oS 0) aNil))) (oS 1))) (oE (eK (.int 0)))) (eOp2 eqD (oE (eOp2 mulD (oE (eSl slS (oS 0) pNo (pAt (eVar 1)))) (oE (eOp2 fdivD (oE (eA lenD (aCons (oS 0) aNil))) (oS 1))))) (oS 0))) (sRet (eSl slS (oS 0) pNo (pAt (eVar 1)))) sNil))
    (sRet (eVar 0))
abbrev st_shortest_ring : Stmt := topS 15
theorem sc_shortest_ring : FnScope ["ring", "size"] ["ring"] (defScope st_shortest_ring) := ⟨rfl, rfl, rfl, by decide +kernel, rfl, by decide +kernel, by decide +kernel⟩
theorem ok_shortest_ring {P : Program} {w : World} {K : PySem.W.Frag} {mg : Str → Option Value} {base : Heap} {k : Nat} {f : Addr} {fd : FuncData} (G : Gm K mg) (FD : FunD K "shortest_ring" "shortest_ring" (defArgs st_shortest_ring) (defBody st_shortest_ring) (defScope st_shortest_ring) [] [] f fd) (a : mg "shortest_ring" = some (.ref f))  :
    Kn P w K mg base (k + 1) "shortest_ring" [.sh] (fnF [.sh] 1 F_shortest_ring) := by
  refine ⟨f, fd, ["ring"], fn_ok FD sc_shortest_ring rfl (by decide) (fun cdv A outer s H E hr => ?_) (fun ds r h => h), a, FD.kp, FD.bindsN fun _ _ _ _ _ _ us hl => match us, hl with | [_], _ => rfl⟩
  have nd := sc_shortest_ring.nd
  unfold F_shortest_ring
  exact dss_cons (ds_for PassesOwn.never rfl (di_range2 G.m_range de_int (de_callB cr_lenX cv_len G.m_len (by decide +kernel) (da_cons (do_peek 0) da_nil))) (dg_name 1 nd) (dss_one (ds_if (dt_w (dw_and (dt_cmp2 (op_eqX (room64 hr)) ov_eq (do_of (de_op2 op_mod ov_mod (do_of (de_callB cr_lenX cv_len G.m_len (by decide +kernel) (da_cons (do_peek 0) da_nil))) (do_peek 1))) (do_of de_int) (nomark _)) (dw_and1 (dt_cmp2 (op_eqX (room64 hr)) ov_eq (do_of (de_op2 op_mulD ov_mul (do_of (de_slS (do_peek 0) dp_no (dp_at (de_var 1)))) (do_of (de_op2 op_fdivN ov_fdiv (do_of (de_callB cr_lenX cv_len G.m_len (by decide +kernel) (da_cons (do_peek 0) da_nil))) (do_peek 1))))) (do_peek 0) (nomark _))))) (dss_one (ds_ret (de_slS (do_peek 0) dp_no (dp_at (de_var 1))))) dss_nil)))
    (dss_one (ds_ret (de_var 0)))
def F_Endless__settle (g_shortest_ring : FN) : FS :=
  sSeq (sG (eCall [.sh] g_shortest_ring (aCons (oE (eVar 2)) aNil)) (gN 2))
    (sSeq (sWhile FU (eAnd (eOp2 neD (oS 1) (oE (eK (.str [])))) (eOp2 eqD (oE (eOp2 ixD (oS 1) (oE (eNeg (eK (.int 1)))))) (oE (eOp2 ixD (oS 2) (oE (eNeg (eK (.int 1)))))))) (sSeq (sG (eOp2 addD (oE (eOp2 ixD (oS 2) (oE (eNeg (eK (.int 1)))))) (oE (eSl slS (oS 2) pNo (pAt (eNeg (eK (.int 1))))))) (gN 2))
    (sG (eSl slS (oS 1) pNo (pAt (eNeg (eK (.int 1))))) (gN 1))))
    (sSeq (sFd 0 "Endless" "begun" (eVar 1))
    (sFd 0 "Endless" "round" (eVar 2))))
abbrev st_Endless__settle : Stmt := clsS (topS 17) 1
theorem sc_Endless__settle : FnScope ["self", "head", "ring"] ["self", "head", "ring"] (defScope st_Endless__settle) := ⟨rfl, rfl, rfl, by decide +kernel, rfl, by decide +kernel, by decide +kernel⟩
theorem ok_Endless__settle {P : Program} {w : World} {K : PySem.W.Frag} {mg : Str → Option Value} {base : Heap} {k : Nat} {f : Addr} {fd : FuncData} (G : Gm K mg) (FD : FunD K "settle" "Endless.settle" (defArgs st_Endless__settle) (defBody st_Endless__settle) (defScope st_Endless__settle) [] [] f fd) (M : Meth K (He.ga K "Endless") "settle" f) {g_shortest_ring : FN} (C_shortest_ring : Kn P w K mg base k "shortest_ring" [.sh] g_shortest_ring) :
    Km P w K mg base (k + 1) "Endless" "settle" [.pn, .sh, .sh] (fnF [.pn, .sh, .sh] 0 (F_Endless__settle g_shortest_ring)) := by
  refine ⟨f, fd, ["self", "head", "ring"], fn_ok FD sc_Endless__settle rfl (by decide) (fun cdv A outer s H E hr => ?_) (fun ds r h => h), G.k_Endless, M, FD.bindsN fun _ _ _ _ _ _ us hl => match us, hl with | [_, _, _], _ => rfl⟩
  have nd := sc_Endless__settle.nd
  unfold F_Endless__settle
  exact dss_cons (ds_set 2 nd (de_call C_shortest_ring hr (da_cons (do_of (de_var 2)) da_nil)))
    (dss_cons (ds_while FU PassesOwn.never (dt_w (dw_and (dt_cmp2 (op_neX (room64 hr)) ov_ne (do_peek 1) (do_of (de_str [])) (nomark _)) (dw_and1 (dt_cmp2 (op_eqX (room64 hr)) ov_eq (do_of (de_ix (do_peek 1) (do_of (de_neg de_int)))) (do_of (de_ix (do_peek 2) (do_of (de_neg de_int)))) (nomark _))))) (dss_cons (ds_set 2 nd (de_op2 op_addD ov_add (do_of (de_ix (do_peek 2) (do_of (de_neg de_int)))) (do_of (de_slS (do_peek 2) dp_no (dp_at (de_neg de_int))))))
    (dss_one (ds_set 1 nd (de_slS (do_peek 1) dp_no (dp_at (de_neg de_int)))))))
    (dss_cons (ds_fld 0 G.k_Endless G.n_Endless_begun (de_var 1))
    (dss_one (ds_fld 0 G.k_Endless G.n_Endless_round (de_var 2)))))
def F_Endless____init__ (g_need_head : FN) (g_Endless__settle : FN) : FS :=
  sSeq (sE (eCall [.sh] g_need_head (aCons (oE (eVar 1)) aNil)))
    (sSeq (sE (eCall [.sh] g_need_head (aCons (oE (eVar 2)) aNil)))
    (sSeq (sIf (eOp2 eqD (oS 2) (oE (eK (.str [])))) sNo sNil)
    (sE (eMethP 0 "Endless" "settle" [.sh, .sh] g_Endless__settle (aCons (oE (eVar 1)) (aCons (oE (eVar 2)) aNil))))))
abbrev st_Endless____init__ : Stmt := clsS (topS 17) 0
theorem sc_Endless____init__ : FnScope ["self", "head", "ring"] ["self", "head", "ring"] (defScope st_Endless____init__) := ⟨rfl, rfl, rfl, by decide +kernel, rfl, by decide +kernel, by decide +kernel⟩
theorem ok_Endless____init__ {P : Program} {w : World} {K : PySem.W.Frag} {mg : Str → Option Value} {base : Heap} {k : Nat} {f : Addr} {fd : FuncData} (G : Gm K mg) (FD : FunD K "__init__" "Endless.__init__" (defArgs st_Endless____init__) (defBody st_Endless____init__) (defScope st_Endless____init__) [] [] f fd) (a : mg "Endless" = some (.ref (He.ga K "Endless"))) (M : Mk K (He.ga K "Endless") f) {g_need_head : FN} (C_need_head : Kn P w K mg base k "need_head" [.sh] g_need_head) {g_Endless__settle : FN} (C_Endless__settle : Km P w K mg base k "Endless" "settle" [.pn, .sh, .sh] g_Endless__settle) :
    Kc P w K mg base (k + 1) "Endless" [.sh, .sh] (fnF [.pn, .sh, .sh] 0 (F_Endless____init__ g_need_head g_Endless__settle)) := by
  refine ⟨f, fd, ["self", "head", "ring"], fn_ok FD sc_Endless____init__ rfl (by decide) (fun cdv A outer s H E hr => ?_) (fun ds r h => h), M, a, FD.bindsN fun _ _ _ _ _ _ us hl => match us, hl with | [_, _, _], _ => rfl⟩
  have nd := sc_Endless____init__.nd
  unfold F_Endless____init__
  exact dss_cons (ds_expr (de_call C_need_head hr (da_cons (do_of (de_var 1)) da_nil)))
    (dss_cons (ds_expr (de_call C_need_head hr (da_cons (do_of (de_var 2)) da_nil)))
    (dss_cons (ds_if (dt_cmp2 (op_eqX (room64 hr)) ov_eq (do_peek 2) (do_of (de_str [])) (nomark _)) (dss_one ds_no) dss_nil)
    (dss_one (ds_expr (de_methP 0 C_Endless__settle hr (da_cons (do_of (de_var 1)) (da_cons (do_of (de_var 2)) da_nil)))))))
def F_Endless__first : FS :=
  sSeq (sG (eA maxD2 (aCons (oE (eK (.int 0))) (aCons (oE (eOp2 subD (oS 1) (oE (eA lenD (aCons (oE (eFld "Endless" "begun" (oS 0))) aNil))))) aNil))) (gN 2))
    (sRet (eSl slS (oE (eOp2 addD (oE (eFld "Endless" "begun" (oS 0))) (oE (eOp2 mulD (oE (eFld "Endless" "round" (oS 0))) (oE (eOp2 addD (oE (eOp2 fdivD (oS 2) (oE (eA lenD (aCons (oE (eFld "Endless" "round" (oS 0))) aNil))))) (oE (eK (.int 1))))))))) pNo (pAt (eVar 1))))
abbrev st_Endless__first : Stmt := clsS (topS 17) 4
theorem sc_Endless__first : FnScope ["self", "many", "more"] ["self", "many"] (defScope st_Endless__first) := ⟨rfl, rfl, rfl, by decide +kernel, rfl, by decide +kernel, by decide +kernel⟩
theorem ok_Endless__first {P : Program} {w : World} {K : PySem.W.Frag} {mg : Str → Option Value} {base : Heap} {k : Nat} {f : Addr} {fd : FuncData} (G : Gm K mg) (FD : FunD K "first" "Endless.first" (defArgs st_Endless__first) (defBody st_Endless__first) (defScope st_Endless__first) [] [] f fd) (M : Meth K (He.ga K "Endless") "first" f)  :
    Km P w K mg base (k + 1) "Endless" "first" [.sh, .sh] (fnF [.sh, .sh] 1 F_Endless__first) := by
  refine ⟨f, fd, ["self", "many"], fn_ok FD sc_Endless__first rfl (by decide) (fun cdv A outer s H E hr => ?_) (fun ds r h => h), G.k_Endless, M, FD.bindsN fun _ _ _ _ _ _ us hl => match us, hl with | [_, _], _ => rfl⟩
  have nd := sc_Endless__first.nd
  unfold F_Endless__first
  exact dss_cons (ds_set 2 nd (de_callB (call_max2 rfl) cv_max2 G.m_max (by decide +kernel) (da_cons (do_of de_int) (da_cons (do_of (de_op2 op_sub ov_sub (do_peek 1) (do_of (de_callB cr_lenX cv_len G.m_len (by decide +kernel) (da_cons (do_of (de_fld G.k_Endless G.n_Endless_begun (do_peek 0))) da_nil))))) da_nil))))
    (dss_one (ds_ret (de_slS (do_of (de_op2 op_addD ov_add (do_of (de_fld G.k_Endless G.n_Endless_begun (do_peek 0))) (do_of (de_op2 op_mulD ov_mul (do_of (de_fld G.k_Endless G.n_Endless_round (do_peek 0))) (do_of (de_op2 op_addD ov_add (do_of (de_op2 op_fdivN ov_fdiv (do_peek 2) (do_of (de_callB cr_lenX cv_len G.m_len (by decide +kernel) (da_cons (do_of (de_fld G.k_Endless G.n_Endless_round (do_peek 0))) da_nil))))) (do_of de_int))))))) dp_no (dp_at (de_var 1)))))
def F_Endless__before (g_Endless__first : FN) : FS :=
  sSeq (sG (eOp2 addD (oE (eOp2 addD (oE (eA maxD2 (aCons (oE (eA lenD (aCons (oE (eFld "Endless" "begun" (oS 0))) aNil))) (aCons (oE (eA lenD (aCons (oE (eFld "Endless" "begun" (oS 1))) aNil))) aNil)))) (oE (eA lenD (aCons (oE (eFld "Endless" "round" (oS 0))) aNil))))) (oE (eA lenD (aCons (oE (eFld "Endless" "round" (oS 1))) aNil)))) (gN 2))
    (sRet (eOp2 ltD (oE (eMeth "Endless" "first" [.sh, .sh] g_Endless__first (eVar 0) (aCons (oE (eVar 2)) aNil))) (oE (eMeth "Endless" "first" [.sh, .sh] g_Endless__first (eVar 1) (aCons (oE (eVar 2)) aNil)))))
abbrev st_Endless__before : Stmt := clsS (topS 17) 12
theorem sc_Endless__before : FnScope ["self", "other", "many"] ["self", "other"] (defScope st_Endless__before) := ⟨rfl, rfl, rfl, by decide +kernel, rfl, by decide +kernel, by decide +kernel⟩
theorem ok_Endless__before {P : Program} {w : World} {K : PySem.W.Frag} {mg : Str → Option Value} {base : Heap} {k : Nat} {f : Addr} {fd : FuncData} (G : Gm K mg) (FD : FunD K "before" "Endless.before" (defArgs st_Endless__before) (defBody st_Endless__before) (defScope st_Endless__before) [] [] f fd) (M : Meth K (He.ga K "Endless") "before" f) {g_Endless__first : FN} (C_Endless__first : Km P w K mg base k "Endless" "first" [.sh, .sh] g_Endless__first) :
    Km P w K mg base (k + 1) "Endless" "before" [.sh, .sh] (fnF [.sh, .sh] 1 (F_Endless__before g_Endless__first)) := by
  refine ⟨f, fd, ["self", "other"], fn_ok FD sc_Endless__before rfl (by decide) (fun cdv A outer s H E hr => ?_) (fun ds r h => h), G.k_Endless, M, FD.bindsN fun _ _ _ _ _ _ us hl => match us, hl with | [_, _], _ => rfl⟩
  have nd := sc_Endless__before.nd
  unfold F_Endless__before
  exact dss_cons (ds_set 2 nd (de_op2 op_addD ov_add (do_of (de_op2 op_addD ov_add (do_of (de_callB (call_max2 rfl) cv_max2 G.m_max (by decide +kernel) (da_cons (do_of (de_callB cr_lenX cv_len G.m_len (by decide +kernel) (da_cons (do_of (de_fld G.k_Endless G.n_Endless_begun (do_peek 0))) da_nil))) (da_cons (do_of (de_callB cr_lenX cv_len G.m_len (by decide +kernel) (da_cons (do_of (de_fld G.k_Endless G.n_Endless_begun (do_peek 1))) da_nil))) da_nil)))) (do_of (de_callB cr_lenX cv_len G.m_len (by decide +kernel) (da_cons (do_of (de_fld G.k_Endless G.n_Endless_round (do_peek 0))) da_nil))))) (do_of (de_callB cr_lenX cv_len G.m_len (by decide +kernel) (da_cons (do_of (de_fld G.k_Endless G.n_Endless_round (do_peek 1))) da_nil)))))
    (dss_one (ds_ret (de_cmp2 op_ltD ov_lt (do_of (de_meth C_Endless__first hr (de_var 0) (da_cons (do_of (de_var 2)) da_nil))) (do_of (de_meth C_Endless__first hr (de_var 1) (da_cons (do_of (de_var 2)) da_nil))) (nomark _))))
def F_Endless____eq__ : FS :=
  sRet (eAnd (eA (isoD "Endless") (aCons (oS 1) (aCons (oE (eK (.cls "Endless"))) aNil))) (eAnd (eOp2 eqD (oE (eFld "Endless" "begun" (oS 0))) (oE (eFld "Endless" "begun" (oS 1)))) (eOp2 eqD (oE (eFld "Endless" "round" (oS 0))) (oE (eFld "Endless" "round" (oS 1))))))
abbrev st_Endless____eq__ : Stmt := clsS (topS 17) 13
theorem sc_Endless____eq__ : FnScope ["self", "other"] ["self", "other"] (defScope st_Endless____eq__) := ⟨rfl, rfl, rfl, by decide +kernel, rfl, by decide +kernel, by decide +kernel⟩
theorem ok_Endless____eq__ {P : Program} {w : World} {K : PySem.W.Frag} {mg : Str → Option Value} {base : Heap} {k : Nat} {f : Addr} {fd : FuncData} (G : Gm K mg) (FD : FunD K "__eq__" "Endless.__eq__" (defArgs st_Endless____eq__) (defBody st_Endless____eq__) (defScope st_Endless____eq__) [] [] f fd) (M : Meth K (He.ga K "Endless") "__eq__" f)  :
    Km P w K mg base (k + 1) "Endless" "__eq__" [.sh, .sh] (fnF [.sh, .sh] 0 F_Endless____eq__) := by
  refine ⟨f, fd, ["self", "other"], fn_ok FD sc_Endless____eq__ rfl (by decide) (fun cdv A outer s H E hr => ?_) (fun ds r h => h), G.k_Endless, M, FD.bindsN fun _ _ _ _ _ _ us hl => match us, hl with | [_, _], _ => rfl⟩
  have nd := sc_Endless____eq__.nd
  unfold F_Endless____eq__
  exact dss_one (ds_ret (de_and (de_callB call_isi (cv_iso G.i_Endless) G.m_isinstance (by decide +kernel) (da_cons (do_peek 1) (da_cons (do_of (de_cls "Endless" G.v_Endless)) da_nil))) (de_and (de_cmp2 (op_eqX (room64 hr)) ov_eq (do_of (de_fld G.k_Endless G.n_Endless_begun (do_peek 0))) (do_of (de_fld G.k_Endless G.n_Endless_begun (do_peek 1))) (nomark _)) (de_one (de_cmp2 (op_eqX (room64 hr)) ov_eq (do_of (de_fld G.k_Endless G.n_Endless_round (do_peek 0))) (do_of (de_fld G.k_Endless G.n_Endless_round (do_peek 1))) (nomark _))))))
def F__law_open : FS :=
  sSeq (sG (eK (.int 1009)) (gN 1))
    (sSeq (sFor (iL (oE (eSl slL (oS 0) pNo (pAt (eK (.int 63)))))) (gN 2) (sG (eOp2 modD (oE (eOp2 addD (oE (eOp2 addD (oE (eOp2 mulD (oS 1) (oE (eK (.int 48271))))) (oE (eOp2 modD (oS 2) (oE (eK (.int 2147483629))))))) (oE (eK (.int 11))))) (oE (eK (.int 2147483647)))) (gN 1)))
    (sRetF (eDisp .lst (aCons (oE (eA listD (aCons (oE (eSl slL (oS 0) pNo (pAt (eK (.int 63))))) aNil))) (aCons (oE (eK (.int 0))) (aCons (oE (eK (.int 0))) (aCons (oE (eVar 1)) (aCons (oE (eK (.int 0))) aNil))))))))
abbrev st__law_open : Stmt := topS 19
theorem sc__law_open : FnScope ["_law_script", "_law_seed", "_law_cell"] ["_law_script"] (defScope st__law_open) := ⟨rfl, rfl, rfl, by decide +kernel, rfl, by decide +kernel, by decide +kernel⟩
theorem ok__law_open {P : Program} {w : World} {K : PySem.W.Frag} {mg : Str → Option Value} {base : Heap} {k : Nat} {f : Addr} {fd : FuncData} (G : Gm K mg) (FD : FunD K "_law_open" "_law_open" (defArgs st__law_open) (defBody st__law_open) (defScope st__law_open) [] [] f fd) (a : mg "_law_open" = some (.ref f))  :
    Kn P w K mg base (k + 1) "_law_open" [.sh] (fnF [.sh] 2 F__law_open) := by
  refine ⟨f, fd, ["_law_script"], fn_ok FD sc__law_open rfl (by decide) (fun cdv A outer s H E hr => ?_) (fun ds r h => h), a, FD.kp, FD.bindsN fun _ _ _ _ _ _ us hl => match us, hl with | [_], _ => rfl⟩
  have nd := sc__law_open.nd
  unfold F__law_open
  exact dss_cons (ds_set 1 nd de_int)
    (dss_cons (ds_for PassesOwn.never rfl (di_list (do_of (de_frz (df_slL (do_peek 0) dp_no (dp_at de_int))))) (dg_name 2 nd) (dss_one (ds_set 1 nd (de_op2 op_mod ov_mod (do_of (de_op2 op_addD ov_add (do_of (de_op2 op_addD ov_add (do_of (de_op2 op_mulD ov_mul (do_peek 1) (do_of de_int))) (do_of (de_op2 op_mod ov_mod (do_peek 2) (do_of de_int))))) (do_of de_int))) (do_of de_int)))))
    (dss_one (ds_retF (df_lst (da_cons (do_of (de_frz (df_callTy (cr_listX rfl) cf_list G.m_list (by decide +kernel) (da_cons (do_of (de_frz (df_slL (do_peek 0) dp_no (dp_at de_int)))) da_nil)))) (da_cons (do_of de_int) (da_cons (do_of de_int) (da_cons (do_of (de_var 1)) (da_cons (do_of de_int) da_nil)))))))))
def F__law_draw : FS :=
  sSeq (sIf (eAnd (eOp2 ltD (oE (eOp2 ixD (oS 0) (oE (eK (.int 2))))) (oE (eK (.int 1)))) (eOp2 ltD (oE (eOp2 ixD (oS 0) (oE (eK (.int 1))))) (oE (eA lenD (aCons (oE (eOp2 ixD (oS 0) (oE (eK (.int 0))))) aNil))))) (sSeq (sG (eOp2 ixD (oE (eOp2 ixD (oS 0) (oE (eK (.int 0))))) (oE (eOp2 ixD (oS 0) (oE (eK (.int 1)))))) (gN 3))
    (sSeq (sSetL 0 (eK (.int 1)) (eOp2 addD (oE (eOp2 ixD (oS 0) (oE (eK (.int 1))))) (oE (eK (.int 1)))))
    (sIf (eOp2 geD (oS 3) (oE (eOp2 powD (oE (eK (.int 10))) (oE (eK (.int 18)))))) (sSetL 0 (eK (.int 2)) (eVar 3)) (sSetL 0 (eK (.int 3)) (eOp2 modD (oE (eOp2 addD (oE (eOp2 ixD (oS 0) (oE (eK (.int 3))))) (oE (eOp2 mulD (oE (eOp2 modD (oS 3) (oE (eK (.int 2147483629))))) (oE (eK (.int 69621))))))) (oE (eK (.int 2147483647)))))))) sNil)
    (sSeq (sIf (eOp2 gtD (oE (eOp2 ixD (oS 0) (oE (eK (.int 2))))) (oE (eK (.int 0)))) (sSeq (sG (eOp2 modD (oE (eOp2 ixD (oS 0) (oE (eK (.int 2))))) (oS 1)) (gN 4))
    (sSeq (sSetL 0 (eK (.int 2)) (eOp2 fdivD (oE (eOp2 ixD (oS 0) (oE (eK (.int 2))))) (oS 1)))
    (sRet (eVar 4)))) sNil)
    (sSeq (sSetL 0 (eK (.int 4)) (eOp2 addD (oE (eOp2 ixD (oS 0) (oE (eK (.int 4))))) (oE (eK (.int 1)))))
    (sSeq (sG (eOp2 modD (oE (eOp2 addD (oE (eOp2 ixD (oS 0) (oE (eK (.int 3))))) (oE (eOp2 mulD (oE (eOp2 ixD (oS 0) (oE (eK (.int 4))))) (oE (eK (.int 7919))))))) (oE (eK (.int 2147483647)))) (gN 2))
    (sSeq (sSetL 0 (eK (.int 3)) (eOp2 modD (oE (eOp2 addD (oE (eOp2 addD (oE (eOp2 mulD (oE (eOp2 modD (oE (eOp2 mulD (oS 2) (oS 2))) (oE (eK (.int 2147483629))))) (oE (eOp2 addD (oE (eOp2 modD (oS 2) (oE (eK (.int 65521))))) (oE (eK (.int 3))))))) (oE (eOp2 mulD (oE (eK (.int 40692))) (oS 2))))) (oE (eK (.int 1013))))) (oE (eK (.int 2147483647)))))
    (sRet (eOp2 modD (oE (eOp2 addD (oE (eOp2 fdivD (oE (eOp2 ixD (oS 0) (oE (eK (.int 3))))) (oE (eK (.int 61))))) (oE (eOp2 mulD (oE (eOp2 modD (oE (eOp2 ixD (oS 0) (oE (eK (.int 3))))) (oE (eK (.int 8191))))) (oE (eK (.int 29))))))) (oS 1)))))))
abbrev st__law_draw : Stmt := topS 20
theorem sc__law_draw : FnScope ["_law_box", "_law_many", "_law_base", "_law_cell", "_law_got"] ["_law_box", "_law_many"] (defScope st__law_draw) := ⟨rfl, rfl, rfl, by decide +kernel, rfl, by decide +kernel, by decide +kernel⟩
theorem ok__law_draw {P : Program} {w : World} {K : PySem.W.Frag} {mg : Str → Option Value} {base : Heap} {k : Nat} {f : Addr} {fd : FuncData} (G : Gm K mg) (FD : FunD K "_law_draw" "_law_draw" (defArgs st__law_draw) (defBody st__law_draw) (defScope st__law_draw) [] [] f fd) (a : mg "_law_draw" = some (.ref f))  :
    Kn P w K mg base (k + 1) "_law_draw" [.pn, .sh] (fnF [.pn, .sh] 3 F__law_draw) := by
  refine ⟨f, fd, ["_law_box", "_law_many"], fn_ok FD sc__law_draw rfl (by decide) (fun cdv A outer s H E hr => ?_) (fun ds r h => h), a, FD.kp, FD.bindsN fun _ _ _ _ _ _ us hl => match us, hl with | [_, _], _ => rfl⟩
  have nd := sc__law_draw.nd
  unfold F__law_draw
  exact dss_cons (ds_if (dt_w (dw_and (dt_cmp2 op_ltD ov_lt (do_of (de_ix (do_peek 0) (do_of de_int))) (do_of de_int) (nomark _)) (dw_and1 (dt_cmp2 op_ltD ov_lt (do_of (de_ix (do_peek 0) (do_of de_int))) (do_of (de_callB cr_lenX cv_len G.m_len (by decide +kernel) (da_cons (do_of (de_ix (do_peek 0) (do_of de_int))) da_nil))) (nomark _))))) (dss_cons (ds_set 3 nd (de_ix (do_of (de_ix (do_peek 0) (do_of de_int))) (do_of (de_ix (do_peek 0) (do_of de_int)))))
    (dss_cons (ds_setL 0 de_int (de_op2 op_addD ov_add (do_of (de_ix (do_peek 0) (do_of de_int))) (do_of de_int)))
    (dss_one (ds_if (dt_cmp2 op_geD ov_ge (do_peek 3) (do_of (de_op2 op_pow ov_pow (do_of de_int) (do_of de_int))) (nomark _)) (dss_one (ds_setL 0 de_int (de_var 3))) (dss_one (ds_setL 0 de_int (de_op2 op_mod ov_mod (do_of (de_op2 op_addD ov_add (do_of (de_ix (do_peek 0) (do_of de_int))) (do_of (de_op2 op_mulD ov_mul (do_of (de_op2 op_mod ov_mod (do_peek 3) (do_of de_int))) (do_of de_int))))) (do_of de_int)))))))) dss_nil)
    (dss_cons (ds_if (dt_cmp2 op_gtD ov_gt (do_of (de_ix (do_peek 0) (do_of de_int))) (do_of de_int) (nomark _)) (dss_cons (ds_set 4 nd (de_op2 op_mod ov_mod (do_of (de_ix (do_peek 0) (do_of de_int))) (do_peek 1)))
    (dss_cons (ds_setL 0 de_int (de_op2 op_fdivN ov_fdiv (do_of (de_ix (do_peek 0) (do_of de_int))) (do_peek 1)))
    (dss_one (ds_ret (de_var 4))))) dss_nil)
    (dss_cons (ds_setL 0 de_int (de_op2 op_addD ov_add (do_of (de_ix (do_peek 0) (do_of de_int))) (do_of de_int)))
    (dss_cons (ds_set 2 nd (de_op2 op_mod ov_mod (do_of (de_op2 op_addD ov_add (do_of (de_ix (do_peek 0) (do_of de_int))) (do_of (de_op2 op_mulD ov_mul (do_of (de_ix (do_peek 0) (do_of de_int))) (do_of de_int))))) (do_of de_int)))
    (dss_cons (ds_setL 0 de_int (de_op2 op_mod ov_mod (do_of (de_op2 op_addD ov_add (do_of (de_op2 op_addD ov_add (do_of (de_op2 op_mulD ov_mul (do_of (de_op2 op_mod ov_mod (do_of (de_op2 op_mulD ov_mul (do_peek 2) (do_peek 2))) (do_of de_int))) (do_of (de_op2 op_addD ov_add (do_of (de_op2 op_mod ov_mod (do_peek 2) (do_of de_int))) (do_of de_int))))) (do_of (de_op2 op_mulD ov_mul (do_of de_int) (do_peek 2))))) (do_of de_int))) (do_of de_int)))
    (dss_one (ds_ret (de_op2 op_mod ov_mod (do_of (de_op2 op_addD ov_add (do_of (de_op2 op_fdivN ov_fdiv (do_of (de_ix (do_peek 0) (do_of de_int))) (do_of de_int))) (do_of (de_op2 op_mulD ov_mul (do_of (de_op2 op_mod ov_mod (do_of (de_ix (do_peek 0) (do_of de_int))) (do_of de_int))) (do_of de_int))))) (do_peek 1))))))))
def F__law_int : FS :=
  sRet (eAnd (eA isiD (aCons (oS 0) (aCons (oE (eK (.ty "int"))) aNil))) (eNot (eA isiD (aCons (oS 0) (aCons (oE (eK (.ty "bool"))) aNil)))))
abbrev st__law_int : Stmt := topS 21
theorem sc__law_int : FnScope ["_law_found"] ["_law_found"] (defScope st__law_int) := ⟨rfl, rfl, rfl, by decide +kernel, rfl, by decide +kernel, by decide +kernel⟩
theorem ok__law_int {P : Program} {w : World} {K : PySem.W.Frag} {mg : Str → Option Value} {base : Heap} {k : Nat} {f : Addr} {fd : FuncData} (G : Gm K mg) (FD : FunD K "_law_int" "_law_int" (defArgs st__law_int) (defBody st__law_int) (defScope st__law_int) [] [] f fd) (a : mg "_law_int" = some (.ref f))  :
    Kn P w K mg base (k + 1) "_law_int" [.sh] (fnF [.sh] 0 F__law_int) := by
  refine ⟨f, fd, ["_law_found"], fn_ok FD sc__law_int rfl (by decide) (fun cdv A outer s H E hr => ?_) (fun ds r h => h), a, FD.kp, FD.bindsN fun _ _ _ _ _ _ us hl => match us, hl with | [_], _ => rfl⟩
  have nd := sc__law_int.nd
  unfold F__law_int
  exact dss_one (ds_ret (de_and (de_callB call_isi cv_isi G.m_isinstance (by decide +kernel) (da_cons (do_peek 0) (da_cons (do_of (de_ty G.m_int (by decide +kernel))) da_nil))) (de_one (de_not (de_callB call_isi cv_isi G.m_isinstance (by decide +kernel) (da_cons (do_peek 0) (da_cons (do_of (de_ty G.m_bool (by decide +kernel))) da_nil)))))))
def F__law_like (g__law_int : FN) (g__law_like : FN) : FS :=
  sSeq (sIf (eOp2 isN (oS 1) (oE (eK .non))) (sRet (eOp2 isN (oS 0) (oE (eK .non)))) sNil)
    (sSeq (sIf (eA isiD (aCons (oS 1) (aCons (oE (eK (.ty "bool"))) aNil))) (sRet (eAnd (eA isiD (aCons (oS 0) (aCons (oE (eK (.ty "bool"))) aNil))) (eOp2 eqD (oS 0) (oS 1)))) sNil)
    (sSeq (sIf (eA isiD (aCons (oS 1) (aCons (oE (eK (.ty "int"))) aNil))) (sRet (eAnd (eCallB [.sh] g__law_int (aCons (oS 0) aNil)) (eOp2 eqD (oS 0) (oS 1)))) sNil)
    (sSeq (sIf (eA isiD (aCons (oS 1) (aCons (oE (eK (.ty "str"))) aNil))) (sRet (eAnd (eA isiD (aCons (oS 0) (aCons (oE (eK (.ty "str"))) aNil))) (eOp2 eqD (oS 0) (oS 1)))) sNil)
    (sSeq (sIf (eOr (eOp2 neD (oE (eA isiD (aCons (oS 1) (aCons (oE (eK (.ty "tuple"))) aNil)))) (oE (eA isiD (aCons (oS 0) (aCons (oE (eK (.ty "tuple"))) aNil))))) (eOp2 neD (oE (eA isiD (aCons (oS 1) (aCons (oE (eK (.ty "list"))) aNil)))) (oE (eA isiD (aCons (oS 0) (aCons (oE (eK (.ty "list"))) aNil)))))) (sRet (eK (.bl false))) sNil)
    (sRet (eAnd (eOp2 eqD (oE (eA lenD (aCons (oS 0) aNil))) (oE (eA lenD (aCons (oS 1) aNil)))) (eA allB (aCons (oE (eLc (iR1 (eA lenD (aCons (oS 1) aNil))) [2] (gN 2) (eK (.bl true)) (eCallB [.sh, .sh] g__law_like (aCons (oE (eOp2 ixD (oS 0) (oS 2))) (aCons (oE (eOp2 ixD (oS 1) (oS 2))) aNil))))) aNil))))))))
abbrev st__law_like : Stmt := topS 22
theorem sc__law_like : FnScope ["_law_found", "_law_due", "_law_k"] ["_law_found", "_law_due"] (defScope st__law_like) := ⟨rfl, rfl, rfl, by decide +kernel, rfl, by decide +kernel, by decide +kernel⟩
theorem ok__law_like {P : Program} {w : World} {K : PySem.W.Frag} {mg : Str → Option Value} {base : Heap} {k : Nat} {f : Addr} {fd : FuncData} (G : Gm K mg) (FD : FunD K "_law_like" "_law_like" (defArgs st__law_like) (defBody st__law_like) (defScope st__law_like) [] [] f fd) (a : mg "_law_like" = some (.ref f)) {g__law_int : FN} (C__law_int : Kn P w K mg base k "_law_int" [.sh] g__law_int) {g__law_like : FN} (C__law_like : Kn P w K mg base k "_law_like" [.sh, .sh] g__law_like) :
    Kn P w K mg base (k + 1) "_law_like" [.sh, .sh] (fnF [.sh, .sh] 1 (F__law_like g__law_int g__law_like)) := by
  refine ⟨f, fd, ["_law_found", "_law_due"], fn_ok FD sc__law_like rfl (by decide) (fun cdv A outer s H E hr => ?_) (fun ds r h => h), a, FD.kp, FD.bindsN fun _ _ _ _ _ _ us hl => match us, hl with | [_, _], _ => rfl⟩
  have nd := sc__law_like.nd
  unfold F__law_like
  exact dss_cons (ds_if (dt_cmp2 op_isN ov_isN (do_peek 1) (do_of de_non) (nomark _)) (dss_one (ds_ret (de_cmp2 op_isN ov_isN (do_peek 0) (do_of de_non) (nomark _)))) dss_nil)
    (dss_cons (ds_if (dt_of (de_callB call_isi cv_isi G.m_isinstance (by decide +kernel) (da_cons (do_peek 1) (da_cons (do_of (de_ty G.m_bool (by decide +kernel))) da_nil)))) (dss_one (ds_ret (de_and (de_callB call_isi cv_isi G.m_isinstance (by decide +kernel) (da_cons (do_peek 0) (da_cons (do_of (de_ty G.m_bool (by decide +kernel))) da_nil))) (de_one (de_cmp2 (op_eqX (room64 hr)) ov_eq (do_peek 0) (do_peek 1) (nomark _)))))) dss_nil)
    (dss_cons (ds_if (dt_of (de_callB call_isi cv_isi G.m_isinstance (by decide +kernel) (da_cons (do_peek 1) (da_cons (do_of (de_ty G.m_int (by decide +kernel))) da_nil)))) (dss_one (ds_ret (de_and (de_callB' C__law_int hr (da_cons (do_peek 0) da_nil)) (de_one (de_cmp2 (op_eqX (room64 hr)) ov_eq (do_peek 0) (do_peek 1) (nomark _)))))) dss_nil)
    (dss_cons (ds_if (dt_of (de_callB call_isi cv_isi G.m_isinstance (by decide +kernel) (da_cons (do_peek 1) (da_cons (do_of (de_ty G.m_str (by decide +kernel))) da_nil)))) (dss_one (ds_ret (de_and (de_callB call_isi cv_isi G.m_isinstance (by decide +kernel) (da_cons (do_peek 0) (da_cons (do_of (de_ty G.m_str (by decide +kernel))) da_nil))) (de_one (de_cmp2 (op_eqX (room64 hr)) ov_eq (do_peek 0) (do_peek 1) (nomark _)))))) dss_nil)
    (dss_cons (ds_if (dt_w (dw_or (dt_cmp2 (op_neX (room64 hr)) ov_ne (do_of (de_callB call_isi cv_isi G.m_isinstance (by decide +kernel) (da_cons (do_peek 1) (da_cons (do_of (de_ty G.m_tuple (by decide +kernel))) da_nil)))) (do_of (de_callB call_isi cv_isi G.m_isinstance (by decide +kernel) (da_cons (do_peek 0) (da_cons (do_of (de_ty G.m_tuple (by decide +kernel))) da_nil)))) (nomark _)) (dw_or1 (dt_cmp2 (op_neX (room64 hr)) ov_ne (do_of (de_callB call_isi cv_isi G.m_isinstance (by decide +kernel) (da_cons (do_peek 1) (da_cons (do_of (de_ty G.m_list (by decide +kernel))) da_nil)))) (do_of (de_callB call_isi cv_isi G.m_isinstance (by decide +kernel) (da_cons (do_peek 0) (da_cons (do_of (de_ty G.m_list (by decide +kernel))) da_nil)))) (nomark _))))) (dss_one (ds_ret de_bl)) dss_nil)
    (dss_one (ds_ret (de_and (de_cmp2 (op_eqX (room64 hr)) ov_eq (do_of (de_callB cr_lenX cv_len G.m_len (by decide +kernel) (da_cons (do_peek 0) da_nil))) (do_of (de_callB cr_lenX cv_len G.m_len (by decide +kernel) (da_cons (do_peek 1) da_nil))) (nomark _)) (de_one (de_callB (cr_all rfl) cv_all G.m_all (by decide +kernel) (da_cons (do_of (de_frz (df_lc [("_law_k", 2)] rfl nd (di_range1 G.m_range (de_callB cr_lenX cv_len G.m_len (by decide +kernel) (da_cons (do_peek 1) da_nil))) (blkOk_by (by first | rfl | decide +kernel)) (fun _ _ _ _ _ => dg_name 2 nd) (fun _ _ _ _ _ => dts_nil) (fun _ _ _ _ _ => de_callB' C__law_like hr (da_cons (do_of (de_ix (do_peek 0) (do_peek 2))) (da_cons (do_of (de_ix (do_peek 1) (do_peek 2))) da_nil)))))) da_nil))))))))))
def F__law_signs (g__law_draw : FN) : FS :=
  sRet (eM isStr joinD (oE (eK (.str []))) (aCons (oE (eLc (iR1 (eVar 1)) [2] (gN 2) (eK (.bl true)) (eOp2 ixD (oE (eK (.str [48, 49]))) (oE (eCallP 0 [.sh] g__law_draw (aCons (oE (eK (.int 2))) aNil)))))) aNil))
abbrev st__law_signs : Stmt := topS 23
theorem sc__law_signs : FnScope ["_law_box", "_law_many", "_law_step"] ["_law_box", "_law_many"] (defScope st__law_signs) := ⟨rfl, rfl, rfl, by decide +kernel, rfl, by decide +kernel, by decide +kernel⟩
theorem ok__law_signs {P : Program} {w : World} {K : PySem.W.Frag} {mg : Str → Option Value} {base : Heap} {k : Nat} {f : Addr} {fd : FuncData} (G : Gm K mg) (FD : FunD K "_law_signs" "_law_signs" (defArgs st__law_signs) (defBody st__law_signs) (defScope st__law_signs) [] [] f fd) (a : mg "_law_signs" = some (.ref f)) {g__law_draw : FN} (C__law_draw : Kn P w K mg base k "_law_draw" [.pn, .sh] g__law_draw) :
    Kn P w K mg base (k + 1) "_law_signs" [.pn, .sh] (fnF [.pn, .sh] 1 (F__law_signs g__law_draw)) := by
  refine ⟨f, fd, ["_law_box", "_law_many"], fn_ok FD sc__law_signs rfl (by decide) (fun cdv A outer s H E hr => ?_) (fun ds r h => h), a, FD.kp, FD.bindsN fun _ _ _ _ _ _ us hl => match us, hl with | [_, _], _ => rfl⟩
  have nd := sc__law_signs.nd
  unfold F__law_signs
  exact dss_one (ds_ret (de_m PySem.F.plainAttrs_str PySem.F.slot_str_join PySem.F.type_str_join mt_join ty_str mv_join (do_of (de_str [])) (da_cons (do_of (de_frz (df_lc [("_law_step", 2)] rfl nd (di_range1 G.m_range (de_var 1)) (blkOk_by (by first | rfl | decide +kernel)) (fun _ _ _ _ _ => dg_name 2 nd) (fun _ _ _ _ _ => dts_nil) (fun _ _ _ _ _ => de_ix (do_of (de_str [48, 49])) (do_of (de_callP 0 C__law_draw hr (da_cons (do_of de_int) da_nil))))))) da_nil)))
def F__law_plain : FS :=
  sSeq (sG (eLc (iR2 (eK (.int 1)) (eOp2 addD (oE (eA lenD (aCons (oS 1) aNil))) (oE (eK (.int 1))))) [3] (gN 3) (eOp2 eqD (oE (eOp2 mulD (oE (eSl slS (oS 1) pNo (pAt (eVar 3)))) (oE (eOp2 fdivD (oE (eA lenD (aCons (oS 1) aNil))) (oS 3))))) (oS 1)) (eVar 3)) (gN 2))
    (sSeq (sG (eSl slS (oS 1) pNo (pAt (eOp2 ixD (oS 2) (oE (eK (.int 0)))))) (gN 1))
    (sSeq (sWhile FU (eAnd (eOp2 neD (oS 0) (oE (eK (.str [])))) (eOp2 eqD (oE (eOp2 ixD (oS 0) (oE (eNeg (eK (.int 1)))))) (oE (eOp2 ixD (oS 1) (oE (eNeg (eK (.int 1)))))))) (sSeq (sG (eOp2 addD (oE (eOp2 ixD (oS 1) (oE (eNeg (eK (.int 1)))))) (oE (eSl slS (oS 1) pNo (pAt (eNeg (eK (.int 1))))))) (gN 1))
    (sG (eSl slS (oS 0) pNo (pAt (eNeg (eK (.int 1))))) (gN 0))))
    (sRet (eDisp .tup (aCons (oE (eVar 0)) (aCons (oE (eVar 1)) aNil))))))
abbrev st__law_plain : Stmt := topS 24
theorem sc__law_plain : FnScope ["_law_head", "_law_ring", "_law_sizes", "_law_size"] ["_law_head", "_law_ring"] (defScope st__law_plain) := ⟨rfl, rfl, rfl, by decide +kernel, rfl, by decide +kernel, by decide +kernel⟩
theorem ok__law_plain {P : Program} {w : World} {K : PySem.W.Frag} {mg : Str → Option Value} {base : Heap} {k : Nat} {f : Addr} {fd : FuncData} (G : Gm K mg) (FD : FunD K "_law_plain" "_law_plain" (defArgs st__law_plain) (defBody st__law_plain) (defScope st__law_plain) [] [] f fd) (a : mg "_law_plain" = some (.ref f))  :
    Kn P w K mg base (k + 1) "_law_plain" [.sh, .sh] (fnF [.sh, .sh] 2 F__law_plain) := by
  refine ⟨f, fd, ["_law_head", "_law_ring"], fn_ok FD sc__law_plain rfl (by decide) (fun cdv A outer s H E hr => ?_) (fun ds r h => h), a, FD.kp, FD.bindsN fun _ _ _ _ _ _ us hl => match us, hl with | [_, _], _ => rfl⟩
  have nd := sc__law_plain.nd
  unfold F__law_plain
  exact dss_cons (ds_setLc 2 [("_law_size", 3)] rfl nd (di_range2 G.m_range de_int (de_op2 op_addD ov_add (do_of (de_callB cr_lenX cv_len G.m_len (by decide +kernel) (da_cons (do_peek 1) da_nil))) (do_of de_int))) (blkOk_by (by first | rfl | decide +kernel)) (fun _ _ _ _ _ => dg_name 3 nd) (fun _ _ _ _ _ => dts_one (dt_cmp2 (op_eqX (room64 hr)) ov_eq (do_of (de_op2 op_mulD ov_mul (do_of (de_slS (do_peek 1) dp_no (dp_at (de_var 3)))) (do_of (de_op2 op_fdivN ov_fdiv (do_of (de_callB cr_lenX cv_len G.m_len (by decide +kernel) (da_cons (do_peek 1) da_nil))) (do_peek 3))))) (do_peek 1) (nomark _))) (fun _ _ _ _ _ => de_var 3))
    (dss_cons (ds_set 1 nd (de_slS (do_peek 1) dp_no (dp_at (de_ix (do_peek 2) (do_of de_int)))))
    (dss_cons (ds_while FU PassesOwn.never (dt_w (dw_and (dt_cmp2 (op_neX (room64 hr)) ov_ne (do_peek 0) (do_of (de_str [])) (nomark _)) (dw_and1 (dt_cmp2 (op_eqX (room64 hr)) ov_eq (do_of (de_ix (do_peek 0) (do_of (de_neg de_int)))) (do_of (de_ix (do_peek 1) (do_of (de_neg de_int)))) (nomark _))))) (dss_cons (ds_set 1 nd (de_op2 op_addD ov_add (do_of (de_ix (do_peek 1) (do_of (de_neg de_int)))) (do_of (de_slS (do_peek 1) dp_no (dp_at (de_neg de_int))))))
    (dss_one (ds_set 0 nd (de_slS (do_peek 0) dp_no (dp_at (de_neg de_int)))))))
    (dss_one (ds_ret (de_frz (df_tup (da_cons (do_of (de_var 0)) (da_cons (do_of (de_var 1)) da_nil))))))))
def F__law_first : FS :=
  sRet (eSl slS (oE (eOp2 addD (oE (eOp2 ixD (oS 0) (oE (eK (.int 0))))) (oE (eOp2 mulD (oE (eOp2 ixD (oS 0) (oE (eK (.int 1))))) (oE (eOp2 addD (oE (eOp2 fdivD (oS 1) (oE (eA lenD (aCons (oE (eOp2 ixD (oS 0) (oE (eK (.int 1))))) aNil))))) (oE (eK (.int 1))))))))) pNo (pAt (eVar 1)))
abbrev st__law_first : Stmt := topS 25
theorem sc__law_first : FnScope ["_law_pair_here", "_law_many"] ["_law_pair_here", "_law_many"] (defScope st__law_first) := ⟨rfl, rfl, rfl, by decide +kernel, rfl, by decide +kernel, by decide +kernel⟩
theorem ok__law_first {P : Program} {w : World} {K : PySem.W.Frag} {mg : Str → Option Value} {base : Heap} {k : Nat} {f : Addr} {fd : FuncData} (G : Gm K mg) (FD : FunD K "_law_first" "_law_first" (defArgs st__law_first) (defBody st__law_first) (defScope st__law_first) [] [] f fd) (a : mg "_law_first" = some (.ref f))  :
    Kn P w K mg base (k + 1) "_law_first" [.sh, .sh] (fnF [.sh, .sh] 0 F__law_first) := by
  refine ⟨f, fd, ["_law_pair_here", "_law_many"], fn_ok FD sc__law_first rfl (by decide) (fun cdv A outer s H E hr => ?_) (fun ds r h => h), a, FD.kp, FD.bindsN fun _ _ _ _ _ _ us hl => match us, hl with | [_, _], _ => rfl⟩
  have nd := sc__law_first.nd
  unfold F__law_first
  exact dss_one (ds_ret (de_slS (do_of (de_op2 op_addD ov_add (do_of (de_ix (do_peek 0) (do_of de_int))) (do_of (de_op2 op_mulD ov_mul (do_of (de_ix (do_peek 0) (do_of de_int))) (do_of (de_op2 op_addD ov_add (do_of (de_op2 op_fdivN ov_fdiv (do_peek 1) (do_of (de_callB cr_lenX cv_len G.m_len (by decide +kernel) (da_cons (do_of (de_ix (do_peek 0) (do_of de_int))) da_nil))))) (do_of de_int))))))) dp_no (dp_at (de_var 1))))
def F__law_real (g_Endless____init__ : FN) : FS :=
  sRetF (eNew "Endless" [.sh, .sh] g_Endless____init__ (aCons (oE (eOp2 ixD (oS 0) (oE (eK (.int 0))))) (aCons (oE (eOp2 ixD (oS 0) (oE (eK (.int 1))))) aNil)))
abbrev st__law_real : Stmt := topS 26
theorem sc__law_real : FnScope ["_law_pair_here"] ["_law_pair_here"] (defScope st__law_real) := ⟨rfl, rfl, rfl, by decide +kernel, rfl, by decide +kernel, by decide +kernel⟩
theorem ok__law_real {P : Program} {w : World} {K : PySem.W.Frag} {mg : Str → Option Value} {base : Heap} {k : Nat} {f : Addr} {fd : FuncData} (G : Gm K mg) (FD : FunD K "_law_real" "_law_real" (defArgs st__law_real) (defBody st__law_real) (defScope st__law_real) [] [] f fd) (a : mg "_law_real" = some (.ref f)) {g_Endless____init__ : FN} (C_Endless____init__ : Kc P w K mg base k "Endless" [.sh, .sh] g_Endless____init__) :
    Kn P w K mg base (k + 1 + 1) "_law_real" [.sh] (fnF [.sh] 0 (F__law_real g_Endless____init__)) := by
  refine ⟨f, fd, ["_law_pair_here"], fn_ok FD sc__law_real rfl (by decide) (fun cdv A outer s H E hr => ?_) (fun ds r h => h), a, FD.kp, FD.bindsN fun _ _ _ _ _ _ us hl => match us, hl with | [_], _ => rfl⟩
  have nd := sc__law_real.nd
  unfold F__law_real
  exact dss_one (ds_retF (df_new C_Endless____init__ hr (da_cons (do_of (de_ix (do_peek 0) (do_of de_int))) (da_cons (do_of (de_ix (do_peek 0) (do_of de_int))) da_nil))))
def F__law_pair (g__law_draw : FN) (g__law_signs : FN) (g__law_plain : FN) : FS :=
  sRet (eCall [.sh, .sh] g__law_plain (aCons (oE (eCallP 0 [.sh] g__law_signs (aCons (oE (eCallP 0 [.sh] g__law_draw (aCons (oE (eVar 1)) aNil))) aNil))) (aCons (oE (eCallP 0 [.sh] g__law_signs (aCons (oE (eOp2 addD (oE (eK (.int 1))) (oE (eCallP 0 [.sh] g__law_draw (aCons (oE (eVar 1)) aNil))))) aNil))) aNil)))
abbrev st__law_pair : Stmt := topS 27
theorem sc__law_pair : FnScope ["_law_box", "_law_most"] ["_law_box", "_law_most"] (defScope st__law_pair) := ⟨rfl, rfl, rfl, by decide +kernel, rfl, by decide +kernel, by decide +kernel⟩
theorem ok__law_pair {P : Program} {w : World} {K : PySem.W.Frag} {mg : Str → Option Value} {base : Heap} {k : Nat} {f : Addr} {fd : FuncData} (G : Gm K mg) (FD : FunD K "_law_pair" "_law_pair" (defArgs st__law_pair) (defBody st__law_pair) (defScope st__law_pair) [] [] f fd) (a : mg "_law_pair" = some (.ref f)) {g__law_draw : FN} (C__law_draw : Kn P w K mg base k "_law_draw" [.pn, .sh] g__law_draw) {g__law_signs : FN} (C__law_signs : Kn P w K mg base k "_law_signs" [.pn, .sh] g__law_signs) {g__law_plain : FN} (C__law_plain : Kn P w K mg base k "_law_plain" [.sh, .sh] g__law_plain) :
    Kn P w K mg base (k + 1) "_law_pair" [.pn, .sh] (fnF [.pn, .sh] 0 (F__law_pair g__law_draw g__law_signs g__law_plain)) := by
  refine ⟨f, fd, ["_law_box", "_law_most"], fn_ok FD sc__law_pair rfl (by decide) (fun cdv A outer s H E hr => ?_) (fun ds r h => h), a, FD.kp, FD.bindsN fun _ _ _ _ _ _ us hl => match us, hl with | [_, _], _ => rfl⟩
  have nd := sc__law_pair.nd
  unfold F__law_pair
  exact dss_one (ds_ret (de_call C__law_plain hr (da_cons (do_of (de_callP 0 C__law_signs hr (da_cons (do_of (de_callP 0 C__law_draw hr (da_cons (do_of (de_var 1)) da_nil))) da_nil))) (da_cons (do_of (de_callP 0 C__law_signs hr (da_cons (do_of (de_op2 op_addD ov_add (do_of de_int) (do_of (de_callP 0 C__law_draw hr (da_cons (do_of (de_var 1)) da_nil))))) da_nil))) da_nil))))
def F__law_lesser (g__law_first : FN) : FS :=
  sSeq (sG (eOp2 addD (oE (eOp2 addD (oE (eA lenD (aCons (oE (eOp2 ixD (oS 0) (oE (eK (.int 0))))) aNil))) (oE (eA lenD (aCons (oE (eOp2 ixD (oS 1) (oE (eK (.int 0))))) aNil))))) (oE (eOp2 mulD (oE (eA lenD (aCons (oE (eOp2 ixD (oS 0) (oE (eK (.int 1))))) aNil))) (oE (eA lenD (aCons (oE (eOp2 ixD (oS 1) (oE (eK (.int 1))))) aNil)))))) (gN 2))
    (sRet (eOp2 ltD (oE (eCall [.sh, .sh] g__law_first (aCons (oE (eVar 0)) (aCons (oE (eVar 2)) aNil)))) (oE (eCall [.sh, .sh] g__law_first (aCons (oE (eVar 1)) (aCons (oE (eVar 2)) aNil))))))
abbrev st__law_lesser : Stmt := topS 28
theorem sc__law_lesser : FnScope ["_law_pair_here", "_law_other", "_law_many"] ["_law_pair_here", "_law_other"] (defScope st__law_lesser) := ⟨rfl, rfl, rfl, by decide +kernel, rfl, by decide +kernel, by decide +kernel⟩
theorem ok__law_lesser {P : Program} {w : World} {K : PySem.W.Frag} {mg : Str → Option Value} {base : Heap} {k : Nat} {f : Addr} {fd : FuncData} (G : Gm K mg) (FD : FunD K "_law_lesser" "_law_lesser" (defArgs st__law_lesser) (defBody st__law_lesser) (defScope st__law_lesser) [] [] f fd) (a : mg "_law_lesser" = some (.ref f)) {g__law_first : FN} (C__law_first : Kn P w K mg base k "_law_first" [.sh, .sh] g__law_first) :
    Kn P w K mg base (k + 1) "_law_lesser" [.sh, .sh] (fnF [.sh, .sh] 1 (F__law_lesser g__law_first)) := by
  refine ⟨f, fd, ["_law_pair_here", "_law_other"], fn_ok FD sc__law_lesser rfl (by decide) (fun cdv A outer s H E hr => ?_) (fun ds r h => h), a, FD.kp, FD.bindsN fun _ _ _ _ _ _ us hl => match us, hl with | [_, _], _ => rfl⟩
  have nd := sc__law_lesser.nd
  unfold F__law_lesser
  exact dss_cons (ds_set 2 nd (de_op2 op_addD ov_add (do_of (de_op2 op_addD ov_add (do_of (de_callB cr_lenX cv_len G.m_len (by decide +kernel) (da_cons (do_of (de_ix (do_peek 0) (do_of de_int))) da_nil))) (do_of (de_callB cr_lenX cv_len G.m_len (by decide +kernel) (da_cons (do_of (de_ix (do_peek 1) (do_of de_int))) da_nil))))) (do_of (de_op2 op_mulD ov_mul (do_of (de_callB cr_lenX cv_len G.m_len (by decide +kernel) (da_cons (do_of (de_ix (do_peek 0) (do_of de_int))) da_nil))) (do_of (de_callB cr_lenX cv_len G.m_len (by decide +kernel) (da_cons (do_of (de_ix (do_peek 1) (do_of de_int))) da_nil)))))))
    (dss_one (ds_ret (de_cmp2 op_ltD ov_lt (do_of (de_call C__law_first hr (da_cons (do_of (de_var 0)) (da_cons (do_of (de_var 2)) da_nil)))) (do_of (de_call C__law_first hr (da_cons (do_of (de_var 1)) (da_cons (do_of (de_var 2)) da_nil)))) (nomark _))))
def F_law (g__law_open : FN) (g__law_pair : FN) (g__law_draw : FN) (g__law_first : FN) (g__law_plain : FN) (g__law_real : FN) (g__law_lesser : FN) (g_Endless__before : FN) (g__law_like : FN) (g_Endless____eq__ : FN) (g_Endless____init__ : FN) : FS :=
  sSeq (sOw 1 (eCallF [.sh] g__law_open (aCons (oE (eVar 0)) aNil)))
    (sSeq (sFor (iR1 (eK (.int 5))) (gN 2) (sSeq (sOw 3 (eDisp .lst (aCons (oE (eCallP 1 [.sh] g__law_pair (aCons (oE (eK (.int 9))) aNil))) (aCons (oE (eCallP 1 [.sh] g__law_pair (aCons (oE (eK (.int 9))) aNil))) aNil))))
    (sSeq (sG (eCallP 1 [.sh] g__law_draw (aCons (oE (eK (.int 50))) aNil)) (gN 4))
    (sSeq (sE (eMut 3 gApp (aCons (oE (eCall [.sh, .sh] g__law_plain (aCons (oE (eCall [.sh, .sh] g__law_first (aCons (oE (eOp2 ixD (oS 3) (oE (eK (.int 0))))) (aCons (oE (eVar 4)) aNil)))) (aCons (oE (eOp2 ixD (oE (eOp2 ixD (oS 3) (oE (eK (.int 1))))) (oE (eK (.int 1))))) aNil)))) aNil)))
    (sSeq (sG (eLc (iL (oS 3)) [8] (gN 8) (eK (.bl true)) (eCallF [.sh] g__law_real (aCons (oE (eVar 8)) aNil))) (gN 5))
    (sSeq (sFor (iR1 (eK (.int 3))) (gN 6) (sFor (iR1 (eK (.int 3))) (gN 7) (sSeq (sG (eCall [.sh, .sh] g__law_lesser (aCons (oE (eOp2 ixD (oS 3) (oS 6))) (aCons (oE (eOp2 ixD (oS 3) (oS 7))) aNil))) (gN 9))
    (sSeq (sIf (eOr (eNot (eCallB [.sh, .sh] g__law_like (aCons (oE (eMeth "Endless" "before" [.sh, .sh] g_Endless__before (eOp2 ixD (oS 5) (oS 6)) (aCons (oE (eOp2 ixD (oS 5) (oS 7))) aNil))) (aCons (oS 9) aNil)))) (eAnd (eVar 9) (eMeth "Endless" "before" [.sh, .sh] g_Endless__before (eOp2 ixD (oS 5) (oS 7)) (aCons (oE (eOp2 ixD (oS 5) (oS 6))) aNil)))) (sRet (eK (.bl false))) sNil)
    (sIf (eAnd (eNot (eVar 9)) (eAnd (eNot (eMeth "Endless" "before" [.sh, .sh] g_Endless__before (eOp2 ixD (oS 5) (oS 7)) (aCons (oE (eOp2 ixD (oS 5) (oS 6))) aNil))) (eNot (exEq "Endless" g_Endless____eq__ (eOp2 ixD (oS 5) (oS 6)) (eOp2 ixD (oS 5) (oS 7)))))) (sRet (eK (.bl false))) sNil)))))
    (sIf (eAnd (eMeth "Endless" "before" [.sh, .sh] g_Endless__before (eOp2 ixD (oS 5) (oE (eK (.int 0)))) (aCons (oE (eOp2 ixD (oS 5) (oE (eK (.int 1))))) aNil)) (eAnd (eMeth "Endless" "before" [.sh, .sh] g_Endless__before (eOp2 ixD (oS 5) (oE (eK (.int 1)))) (aCons (oE (eOp2 ixD (oS 5) (oE (eK (.int 2))))) aNil)) (eNot (eMeth "Endless" "before" [.sh, .sh] g_Endless__before (eOp2 ixD (oS 5) (oE (eK (.int 0)))) (aCons (oE (eOp2 ixD (oS 5) (oE (eK (.int 2))))) aNil))))) (sRet (eK (.bl false))) sNil)))))))
    (sRet (eNot (eMeth "Endless" "before" [.sh, .sh] g_Endless__before (eNew "Endless" [.sh, .sh] g_Endless____init__ (aCons (oE (eK (.str []))) (aCons (oE (eK (.str [48]))) aNil))) (aCons (oE (eNew "Endless" [.sh, .sh] g_Endless____init__ (aCons (oE (eK (.str [48, 48, 48]))) (aCons (oE (eK (.str [48]))) aNil)))) aNil)))))
abbrev st_law : Stmt := topS 29
theorem sc_law : FnScope ["_law_script", "_law_box", "_law_turn", "_law_pairs", "_law_size", "_law_rows", "_law_one", "_law_two", "_law_pair_here", "_law_due"] ["_law_script"] (defScope st_law) := ⟨rfl, rfl, rfl, by decide +kernel, rfl, by decide +kernel, by decide +kernel⟩
theorem ok_law {P : Program} {w : World} {K : PySem.W.Frag} {mg : Str → Option Value} {base : Heap} {k : Nat} {f : Addr} {fd : FuncData} (G : Gm K mg) (FD : FunD K "law" "law" (defArgs st_law) (defBody st_law) (defScope st_law) [] [] f fd) (a : mg "law" = some (.ref f)) {g__law_open : FN} (C__law_open : Kn P w K mg base (k + 1) "_law_open" [.sh] g__law_open) {g__law_pair : FN} (C__law_pair : Kn P w K mg base (k + 1) "_law_pair" [.pn, .sh] g__law_pair) {g__law_draw : FN} (C__law_draw : Kn P w K mg base (k + 1) "_law_draw" [.pn, .sh] g__law_draw) {g__law_first : FN} (C__law_first : Kn P w K mg base (k + 1) "_law_first" [.sh, .sh] g__law_first) {g__law_plain : FN} (C__law_plain : Kn P w K mg base (k + 1) "_law_plain" [.sh, .sh] g__law_plain) {g__law_real : FN} (C__law_real : Kn P w K mg base (k + 1) "_law_real" [.sh] g__law_real) {g__law_lesser : FN} (C__law_lesser : Kn P w K mg base (k + 1) "_law_lesser" [.sh, .sh] g__law_lesser) {g_Endless__before : FN} (C_Endless__before : Km P w K mg base (k + 1) "Endless" "before" [.sh, .sh] g_Endless__before) {g__law_like : FN} (C__law_like : Kn P w K mg base (k + 1) "_law_like" [.sh, .sh] g__law_like) {g_Endless____eq__ : FN} (C_Endless____eq__ : Km P w K mg base (k + 1) "Endless" "__eq__" [.sh, .sh] g_Endless____eq__) {g_Endless____init__ : FN} (C_Endless____init__ : Kc P w K mg base k "Endless" [.sh, .sh] g_Endless____init__) :
    FnOk P w K mg base CX0 (k + 1 + 1) f fd ["_law_script"] (spD K [.sh] (fnF [.sh] 9 (F_law g__law_open g__law_pair g__law_draw g__law_first g__law_plain g__law_real g__law_lesser g_Endless__before g__law_like g_Endless____eq__ g_Endless____init__))) := by
  refine fn_ok FD sc_law rfl (by decide) (fun cdv A outer s H E hr => ?_) (fun ds r h => h)
  have nd := sc_law.nd
  unfold F_law
  exact dss_cons (ds_own 1 nd (df_call C__law_open hr (da_cons (do_of (de_var 0)) da_nil)))
    (dss_cons (ds_for PassesOwn.never rfl (di_range1 G.m_range de_int) (dg_name 2 nd) (dss_cons (ds_own 3 nd (df_lst (da_cons (do_of (de_callP 1 C__law_pair hr (da_cons (do_of de_int) da_nil))) (da_cons (do_of (de_callP 1 C__law_pair hr (da_cons (do_of de_int) da_nil))) da_nil))))
    (dss_cons (ds_set 4 nd (de_callP 1 C__law_draw hr (da_cons (do_of de_int) da_nil)))
    (dss_cons (ds_expr (de_mut 3 PySem.F.slot_list_append PySem.F.type_list_append mt_append mm_app (da_cons (do_of (de_call C__law_plain hr (da_cons (do_of (de_call C__law_first hr (da_cons (do_of (de_ix (do_peek 3) (do_of de_int))) (da_cons (do_of (de_var 4)) da_nil)))) (da_cons (do_of (de_ix (do_of (de_ix (do_peek 3) (do_of de_int))) (do_of de_int))) da_nil)))) da_nil)))
    (dss_cons (ds_setLc 5 [("_law_pair_here", 8)] rfl nd (di_list (do_peek 3)) (blkOk_by (by first | rfl | decide +kernel)) (fun _ _ _ _ _ => dg_name 8 nd) (fun _ _ _ _ _ => dts_nil) (fun _ _ _ _ _ => de_frz (df_call C__law_real hr (da_cons (do_of (de_var 8)) da_nil))))
    (dss_cons (ds_for PassesOwn.never rfl (di_range1 G.m_range de_int) (dg_name 6 nd) (dss_one (ds_for PassesOwn.never rfl (di_range1 G.m_range de_int) (dg_name 7 nd) (dss_cons (ds_set 9 nd (de_call C__law_lesser hr (da_cons (do_of (de_ix (do_peek 3) (do_peek 6))) (da_cons (do_of (de_ix (do_peek 3) (do_peek 7))) da_nil))))
    (dss_cons (ds_if (dt_w (dw_or (dt_not (dt_of (de_callB' C__law_like hr (da_cons (do_of (de_meth C_Endless__before hr (de_ix (do_peek 5) (do_peek 6)) (da_cons (do_of (de_ix (do_peek 5) (do_peek 7))) da_nil))) (da_cons (do_peek 9) da_nil))))) (dw_or1 (dt_w (dw_and (dt_of (de_var 9)) (dw_and1 (dt_of (de_meth C_Endless__before hr (de_ix (do_peek 5) (do_peek 7)) (da_cons (do_of (de_ix (do_peek 5) (do_peek 6))) da_nil))))))))) (dss_one (ds_ret de_bl)) dss_nil)
    (dss_one (ds_if (dt_w (dw_and (dt_not (dt_of (de_var 9))) (dw_and (dt_not (dt_of (de_meth C_Endless__before hr (de_ix (do_peek 5) (do_peek 7)) (da_cons (do_of (de_ix (do_peek 5) (do_peek 6))) da_nil)))) (dw_and1 (dt_not (dt_eqO C_Endless____eq__ hr (de_ix (do_peek 5) (do_peek 6)) (de_ix (do_peek 5) (do_peek 7)))))))) (dss_one (ds_ret de_bl)) dss_nil)))))))
    (dss_one (ds_if (dt_w (dw_and (dt_of (de_meth C_Endless__before hr (de_ix (do_peek 5) (do_of de_int)) (da_cons (do_of (de_ix (do_peek 5) (do_of de_int))) da_nil))) (dw_and (dt_of (de_meth C_Endless__before hr (de_ix (do_peek 5) (do_of de_int)) (da_cons (do_of (de_ix (do_peek 5) (do_of de_int))) da_nil))) (dw_and1 (dt_not (dt_of (de_meth C_Endless__before hr (de_ix (do_peek 5) (do_of de_int)) (da_cons (do_of (de_ix (do_peek 5) (do_of de_int))) da_nil)))))))) (dss_one (ds_ret de_bl)) dss_nil))))))))
    (dss_one (ds_ret (de_not (de_meth C_Endless__before hr (de_frz (df_new C_Endless____init__ hr (da_cons (do_of (de_str [])) (da_cons (do_of (de_str [48])) da_nil)))) (da_cons (do_of (de_frz (df_new C_Endless____init__ hr (da_cons (do_of (de_str [48, 48, 48])) (da_cons (do_of (de_str [48])) da_nil))))) da_nil))))))
def G_is_signs : FN := fnF [.sh] 1 F_is_signs
def G_is_head : FN := fnF [.sh] 0 (F_is_head G_is_signs)
def G_need_head : FN := fnF [.sh] 0 (F_need_head G_is_head)
def G_shortest_ring : FN := fnF [.sh] 1 F_shortest_ring
def G_Endless__settle : FN := fnF [.pn, .sh, .sh] 0 (F_Endless__settle G_shortest_ring)
def G_Endless____init__ : FN := fnF [.pn, .sh, .sh] 0 (F_Endless____init__ G_need_head G_Endless__settle)
def G_Endless__first : FN := fnF [.sh, .sh] 1 F_Endless__first
def G_Endless__before : FN := fnF [.sh, .sh] 1 (F_Endless__before G_Endless__first)
def G_Endless____eq__ : FN := fnF [.sh, .sh] 0 F_Endless____eq__
def G__law_open : FN := fnF [.sh] 2 F__law_open
def G__law_draw : FN := fnF [.pn, .sh] 3 F__law_draw
def G__law_int : FN := fnF [.sh] 0 F__law_int
def R__law_like (g : FN) : FN := fnF [.sh, .sh] 1 (F__law_like G__law_int g)
def G__law_like : FN := recN R__law_like 5
def G__law_signs : FN := fnF [.pn, .sh] 1 (F__law_signs G__law_draw)
def G__law_plain : FN := fnF [.sh, .sh] 2 F__law_plain
def G__law_first : FN := fnF [.sh, .sh] 0 F__law_first
def G__law_real : FN := fnF [.sh] 0 (F__law_real G_Endless____init__)
def G__law_pair : FN := fnF [.pn, .sh] 0 (F__law_pair G__law_draw G__law_signs G__law_plain)
def G__law_lesser : FN := fnF [.sh, .sh] 1 (F__law_lesser G__law_first)
def G_law : FN := fnF [.sh] 9 (F_law G__law_open G__law_pair G__law_draw G__law_first G__law_plain G__law_real G__law_lesser G_Endless__before G__law_like G_Endless____eq__ G_Endless____init__)
end Lw
namespace Qd
open PySem PySem.Spec L2
def pr (env : En) (o : Option D) : Option (D × En) := o.map fun z => (z, env)
theorem pr_some (env : En) (z : D) : pr env (some z) = some (z, env) := id rfl
def eVar_k (env : En) : Option (Option Sl) → Option (D × En)
  | some (some (.sh, d)) => some (d, env)
  | _ => none
theorem eVar_eq (i : Nat) (env : En) : eVar i env = eVar_k env env[i]? := by
  unfold eVar eVar_k
  all_goals (split <;> rename_i h <;> simp_all)
theorem eVar_k1 (env : En) (d : D) : eVar_k env (some (some (.sh, d))) = some (d, env) := id rfl
theorem eK_eq (d : D) (env : En) : eK d env = some (d, env) := id rfl
def oS_k (i : Nat) (env : En) : Option (Option Sl) → Option (Ov × En)
  | some (some _) => some (.s i, env)
  | _ => none
theorem oS_eq (i : Nat) (env : En) : oS i env = oS_k i env env[i]? := by
  unfold oS oS_k
  all_goals (split <;> rename_i h <;> simp_all)
theorem oS_k1 (i : Nat) (env : En) (s : Sl) : oS_k i env (some (some s)) = some (.s i, env) := id rfl
def oE_k (o : Option (D × En)) : Option (Ov × En) := o.map fun p => (.d p.1, p.2)
theorem oE_eq (f : FE) (env : En) : oE f env = oE_k (f env) := id rfl
theorem oE_k1 (d : D) (env : En) : oE_k (some (d, env)) = some (.d d, env) := id rfl
theorem fetch_d (env : En) (d : D) : fetch env (.d d) = some d := id rfl
def fetch_k : Option (Option Sl) → Option D
  | some (some (_, d)) => some d
  | _ => none
theorem fetch_s (env : En) (i : Nat) : fetch env (.s i) = fetch_k env[i]? := by
  show (match env[i]? with
    | some (some (_, d)) => some d
    | _ => none) = fetch_k env[i]?
  unfold fetch_k
  split <;> rfl
theorem fetch_k1 (k : Kd) (d : D) : fetch_k (some (some (k, d))) = some d := id rfl
def op2k4 (g : D → D → Option D) (env : En) (d e : D) : Option (D × En) := pr env (g d e)
def op2k3 (g : D → D → Option D) (b : Ov) (env : En) (d : D) : Option (D × En) := (fetch env b).bind (op2k4 g env d)
def op2k2 (g : D → D → Option D) (a : Ov) (q : Ov × En) : Option (D × En) := (fetch q.2 a).bind (op2k3 g q.1 q.2)
def op2k1 (g : D → D → Option D) (fb : FO) (p : Ov × En) : Option (D × En) := (fb p.2).bind (op2k2 g p.1)
theorem eOp2_eq (g : D → D → Option D) (fa fb : FO) (env : En) : eOp2 g fa fb env = (fa env).bind (op2k1 g fb) := by
  unfold eOp2 ev2
  cases fa env with
  | none => rfl
  | some p =>
    simp only [Option.bind_some, op2k1]
    cases fb p.2 with
    | none => rfl
    | some q =>
      simp only [Option.bind_some, op2k2]
      cases fetch q.2 p.1 with
      | none => rfl
      | some d =>
        simp only [Option.bind_some, op2k3]
        cases fetch q.2 q.1 <;> rfl
theorem op2k1_eq (g : D → D → Option D) (fb : FO) (a : Ov) (e : En) : op2k1 g fb (a, e) = (fb e).bind (op2k2 g a) := id rfl
theorem op2k2_eq (g : D → D → Option D) (a b : Ov) (e : En) : op2k2 g a (b, e) = (fetch e a).bind (op2k3 g b e) := id rfl
theorem op2k3_eq (g : D → D → Option D) (b : Ov) (e : En) (d : D) : op2k3 g b e d = (fetch e b).bind (op2k4 g e d) := id rfl
theorem op2k4_eq (g : D → D → Option D) (e : En) (d d' : D) : op2k4 g e d d' = pr e (g d d') := id rfl
theorem aNil_eq (env : En) : aNil env = some ([], env) := id rfl
def aC2 (a : Ov) (o : Option (List Ov × En)) : Option (List Ov × En) := o.map fun q => (a :: q.1, q.2)
theorem aC2_eq (a : Ov) (os : List Ov) (e : En) : aC2 a (some (os, e)) = some (a :: os, e) := id rfl
def aC1 (fa : FA) (p : Ov × En) : Option (List Ov × En) := aC2 p.1 (fa p.2)
theorem aCons_eq (fo : FO) (fa : FA) (env : En) : aCons fo fa env = (fo env).bind (aC1 fa) := id rfl
theorem aC1_eq (fa : FA) (a : Ov) (e : En) : aC1 fa (a, e) = aC2 a (fa e) := id rfl
theorem fetchs_nil (env : En) : fetchs env [] = some [] := id rfl
def fts2 (d : D) (o : Option (List D)) : Option (List D) := o.map fun ds => d :: ds
theorem fts2_eq (d : D) (ds : List D) : fts2 d (some ds) = some (d :: ds) := id rfl
def fts1 (env : En) (os : List Ov) (d : D) : Option (List D) := fts2 d (fetchs env os)
theorem fetchs_cons (env : En) (o : Ov) (os : List Ov) : fetchs env (o :: os) = (fetch env o).bind (fts1 env os) := id rfl
theorem fts1_eq (env : En) (os : List Ov) (d : D) : fts1 env os d = fts2 d (fetchs env os) := id rfl
def eA2 (g : List D → Option D) (env : En) (ds : List D) : Option (D × En) := pr env (g ds)
def eA1 (g : List D → Option D) (p : List Ov × En) : Option (D × En) := (fetchs p.2 p.1).bind (eA2 g p.2)
theorem eA_eq (g : List D → Option D) (fa : FA) (env : En) : eA g fa env = (fa env).bind (eA1 g) := id rfl
theorem eA1_eq (g : List D → Option D) (os : List Ov) (e : En) : eA1 g (os, e) = (fetchs e os).bind (eA2 g e) := id rfl
theorem eA2_eq (g : List D → Option D) (e : En) (ds : List D) : eA2 g e ds = pr e (g ds) := id rfl
theorem allD_nil : allD [] = some [] := id rfl
theorem allD_cons (d : D) (os : List Ov) : allD (.d d :: os) = fts2 d (allD os) := id rfl
def eD2 (c : List D → D) (env : En) (ds : List D) : Option (D × En) := if ds.length ≤ sizeLine then some (c ds, env) else none
def eD1 (c : List D → D) (p : List Ov × En) : Option (D × En) := (allD p.1).bind (eD2 c p.2)
theorem eDisp_eq (c : List D → D) (fa : FA) (env : En) : eDisp c fa env = (fa env).bind (eD1 c) := id rfl
theorem eD1_eq (c : List D → D) (os : List Ov) (e : En) : eD1 c (os, e) = (allD os).bind (eD2 c e) := id rfl
theorem eD2_eq (c : List D → D) (e : En) (ds : List D) (h : ds.length ≤ 1000) : eD2 c e ds = some (c ds, e) := if_pos (Nat.le_trans h (by decide))
theorem eD2_0 (c : List D → D) (e : En) : eD2 c e [] = some (c [], e) := eD2_eq c e _ (by simp)
theorem eD2_1 (c : List D → D) (e : En) (a : D) : eD2 c e [a] = some (c [a], e) := eD2_eq c e _ (by simp)
theorem eD2_2 (c : List D → D) (e : En) (a b : D) : eD2 c e [a, b] = some (c [a, b], e) := eD2_eq c e _ (by simp)
theorem eD2_3 (c : List D → D) (e : En) (a b d : D) : eD2 c e [a, b, d] = some (c [a, b, d], e) := eD2_eq c e _ (by simp)
theorem eD2_4 (c : List D → D) (e : En) (a b d f : D) : eD2 c e [a, b, d, f] = some (c [a, b, d, f], e) := eD2_eq c e _ (by simp)
theorem eD2_5 (c : List D → D) (e : En) (a b d f g : D) : eD2 c e [a, b, d, f, g] = some (c [a, b, d, f, g], e) := eD2_eq c e _ (by simp)
theorem eD2_6 (c : List D → D) (e : En) (a b d f g h : D) : eD2 c e [a, b, d, f, g, h] = some (c [a, b, d, f, g, h], e) := eD2_eq c e _ (by simp)
theorem pNo_eq (env : En) : pNo env = some (none, env) := id rfl
def pAt1 (p : D × En) : Option (Option Int × En) := match p.1 with
  | .int i => some (some i, p.2)
  | _ => none
theorem pAt_eq (f : FE) (env : En) : pAt f env = (f env).bind pAt1 := id rfl
theorem pAt1_eq (i : Int) (e : En) : pAt1 (.int i, e) = some (some i, e) := id rfl
def sl4 (g : D → Option Int → Option Int → Option D) (env : En) (lo hi : Option Int) (d : D) : Option (D × En) := pr env (g d lo hi)
def sl3 (g : D → Option Int → Option Int → Option D) (a : Ov) (lo : Option Int) (r : Option Int × En) : Option (D × En) := (fetch r.2 a).bind (sl4 g r.2 lo r.1)
def sl2 (g : D → Option Int → Option Int → Option D) (fh : FP) (a : Ov) (q : Option Int × En) : Option (D × En) := (fh q.2).bind (sl3 g a q.1)
def sl1 (g : D → Option Int → Option Int → Option D) (fl fh : FP) (p : Ov × En) : Option (D × En) := (fl p.2).bind (sl2 g fh p.1)
theorem eSl_eq (g : D → Option Int → Option Int → Option D) (fa : FO) (fl fh : FP) (env : En) : eSl g fa fl fh env = (fa env).bind (sl1 g fl fh) := by
  unfold eSl ev3
  cases fa env with
  | none => rfl
  | some p =>
    simp only [Option.bind_some, sl1]
    cases fl p.2 with
    | none => rfl
    | some q =>
      simp only [Option.bind_some, sl2]
      cases fh q.2 with
      | none => rfl
      | some r =>
        simp only [Option.bind_some, sl3]
        cases fetch r.2 p.1 <;> rfl
theorem sl1_eq (g : D → Option Int → Option Int → Option D) (fl fh : FP) (a : Ov) (e : En) : sl1 g fl fh (a, e) = (fl e).bind (sl2 g fh a) := id rfl
theorem sl2_eq (g : D → Option Int → Option Int → Option D) (fh : FP) (a : Ov) (lo : Option Int) (e : En) : sl2 g fh a (lo, e) = (fh e).bind (sl3 g a lo) := id rfl
theorem sl3_eq (g : D → Option Int → Option Int → Option D) (a : Ov) (lo hi : Option Int) (e : En) : sl3 g a lo (hi, e) = (fetch e a).bind (sl4 g e lo hi) := id rfl
theorem sl4_eq (g : D → Option Int → Option Int → Option D) (e : En) (lo hi : Option Int) (d : D) : sl4 g e lo hi d = pr e (g d lo hi) := id rfl
def and1 (fb : FE) (p : D × En) : Option (D × En) := match p.1 with
  | .bl true => fb p.2
  | .bl false => some (.bl false, p.2)
  | _ => none
theorem eAnd_eq (fa fb : FE) (env : En) : eAnd fa fb env = (fa env).bind (and1 fb) := id rfl
theorem and1_eq (fb : FE) (b : Bool) (e : En) : and1 fb (.bl b, e) = if b = true then fb e else some (.bl false, e) := by cases b <;> rfl
def or1 (fb : FE) (p : D × En) : Option (D × En) := match p.1 with
  | .bl true => some (.bl true, p.2)
  | .bl false => fb p.2
  | _ => none
theorem eOr_eq (fa fb : FE) (env : En) : eOr fa fb env = (fa env).bind (or1 fb) := id rfl
theorem or1_eq (fb : FE) (b : Bool) (e : En) : or1 fb (.bl b, e) = if b = true then some (.bl true, e) else fb e := by cases b <;> rfl
def not1 (p : D × En) : Option (D × En) := match p.1 with
  | .bl b => some (.bl (!b), p.2)
  | _ => none
theorem eNot_eq (fa : FE) (env : En) : eNot fa env = (fa env).bind not1 := id rfl
theorem not1_eq (b : Bool) (e : En) : not1 (.bl b, e) = some (.bl (!b), e) := id rfl
def if1 (fa fb : FE) (p : D × En) : Option (D × En) := match p.1 with
  | .bl true => fa p.2
  | .bl false => fb p.2
  | _ => none
theorem eIf_eq (ft fa fb : FE) (env : En) : eIf ft fa fb env = (ft env).bind (if1 fa fb) := id rfl
theorem if1_eq (fa fb : FE) (b : Bool) (e : En) : if1 fa fb (.bl b, e) = if b = true then fa e else fb e := by cases b <;> rfl
def neg1 (p : D × En) : Option (D × En) := match p.1 with
  | .int i => some (.int (-i), p.2)
  | _ => none
theorem eNeg_eq (fa : FE) (env : En) : eNeg fa env = (fa env).bind neg1 := id rfl
theorem neg1_eq (i : Int) (e : En) : neg1 (.int i, e) = some (.int (-i), e) := id rfl
def m4 (g : D → List D → Option D) (env : En) (d : D) (ds : List D) : Option (D × En) := pr env (g d ds)
def m3 (g : D → List D → Option D) (env : En) (os : List Ov) (d : D) : Option (D × En) := (fetchs env os).bind (m4 g env d)
def m2 (g : D → List D → Option D) (o : Ov) (q : List Ov × En) : Option (D × En) := (fetch q.2 o).bind (m3 g q.2 q.1)
def m1 (ty : D → Bool) (g : D → List D → Option D) (fa : FA) (o : Ov) (env : En) (d0 : D) : Option (D × En) := if ty d0 then (fa env).bind (m2 g o) else none
def m0 (ty : D → Bool) (g : D → List D → Option D) (fa : FA) (p : Ov × En) : Option (D × En) := (fetch p.2 p.1).bind (m1 ty g fa p.1 p.2)
theorem eM_eq (ty : D → Bool) (g : D → List D → Option D) (fo : FO) (fa : FA) (env : En) : eM ty g fo fa env = (fo env).bind (m0 ty g fa) := id rfl
theorem m0_eq (ty : D → Bool) (g : D → List D → Option D) (fa : FA) (o : Ov) (e : En) : m0 ty g fa (o, e) = (fetch e o).bind (m1 ty g fa o e) := id rfl
theorem m1_str (g : D → List D → Option D) (fa : FA) (o : Ov) (e : En) (x : List Nat) : m1 isStr g fa o e (.str x) = (fa e).bind (m2 g o) := id rfl
theorem m1_lst (g : D → List D → Option D) (fa : FA) (o : Ov) (e : En) (x : List D) : m1 isLst g fa o e (.lst x) = (fa e).bind (m2 g o) := id rfl
theorem m2_eq (g : D → List D → Option D) (o : Ov) (os : List Ov) (e : En) : m2 g o (os, e) = (fetch e o).bind (m3 g e os) := id rfl
theorem m3_eq (g : D → List D → Option D) (e : En) (os : List Ov) (d : D) : m3 g e os d = (fetchs e os).bind (m4 g e d) := id rfl
theorem m4_eq (g : D → List D → Option D) (e : En) (d : D) (ds : List D) : m4 g e d ds = pr e (g d ds) := id rfl
def mu4 (i : Nat) (k : Kd) (env : En) (o : Option (D × List D)) : Option (D × En) := o.map fun z => (z.1, env.set i (some (k, .lst z.2)))
theorem mu4_eq (i : Nat) (k : Kd) (env : En) (z : D) (ds : List D) : mu4 i k env (some (z, ds)) = some (z, env.set i (some (k, .lst ds))) := id rfl
def mu3 (i : Nat) (g : List D → List D → Option (D × List D)) (env : En) (as : List D) : Option (Option Sl) → Option (D × En)
  | some (some (.sh, _)) => none
  | some (some (k, .lst ds)) => mu4 i k env (g ds as)
  | _ => none
theorem mu3_ow (i : Nat) (g : List D → List D → Option (D × List D)) (env : En) (as ds : List D) : mu3 i g env as (some (some (.ow, .lst ds))) = mu4 i .ow env (g ds as) := id rfl
theorem mu3_pn (i : Nat) (g : List D → List D → Option (D × List D)) (env : En) (as ds : List D) : mu3 i g env as (some (some (.pn, .lst ds))) = mu4 i .pn env (g ds as) := id rfl
def mu2 (i : Nat) (g : List D → List D → Option (D × List D)) (env : En) (as : List D) : Option (D × En) := mu3 i g env as env[i]?
theorem mu2_eq (i : Nat) (g : List D → List D → Option (D × List D)) (env : En) (as : List D) : mu2 i g env as = mu3 i g env as env[i]? := id rfl
def mu1 (i : Nat) (g : List D → List D → Option (D × List D)) (p : List Ov × En) : Option (D × En) := (allD p.1).bind (mu2 i g p.2)
theorem mu1_eq (i : Nat) (g : List D → List D → Option (D × List D)) (os : List Ov) (e : En) : mu1 i g (os, e) = (allD os).bind (mu2 i g e) := id rfl
def mu0 (i : Nat) (g : List D → List D → Option (D × List D)) (fa : FA) (env : En) : Option (Option Sl) → Option (D × En)
  | some (some (_, .lst _)) => (fa env).bind (mu1 i g)
  | _ => none
theorem mu0_eq (i : Nat) (g : List D → List D → Option (D × List D)) (fa : FA) (env : En) (k : Kd) (ds : List D) : mu0 i g fa env (some (some (k, .lst ds))) = (fa env).bind (mu1 i g) := id rfl
theorem eMut_eq (i : Nat) (g : List D → List D → Option (D × List D)) (fa : FA) (env : En) : eMut i g fa env = mu0 i g fa env env[i]? := by
  unfold eMut mu0
  split
  · rename_i h
    try rw [h]
    try simp only
    cases fa env with
    | none => rfl
    | some p =>
      simp only [Option.bind_some, mu1]
      cases allD p.1 with
      | none => rfl
      | some as =>
        simp only [Option.bind_some, mu2, mu3]
        all_goals (split <;> rename_i h2 <;> simp_all [mu4])
  · rename_i h
    first
    | rfl
    | (split
       · rename_i h2
         exact absurd h2 (h _ _)
       · rfl)
theorem gApp_eq (ds : List D) (d : D) (h : ds.length < 1000000) : gApp ds [d] = some (.non, ds ++ [d]) := if_pos (Nat.lt_of_lt_of_le h (by decide))
def seq1 (G : FS) : Out → Option Out
  | .nx e => G e
  | o => some o
theorem sSeq_eq (F G : FS) (env : En) : sSeq F G env = (F env).bind (seq1 G) := by
  unfold sSeq
  cases F env with
  | none => rfl
  | some o => cases o <;> rfl
theorem seq1_nx (G : FS) (e : En) : seq1 G (.nx e) = G e := id rfl
theorem seq1_bk (G : FS) (e : En) : seq1 G (.bk e) = some (.bk e) := id rfl
theorem seq1_ct (G : FS) (e : En) : seq1 G (.ct e) = some (.ct e) := id rfl
theorem seq1_rt (G : FS) (b : Bool) (d : D) (e : En) : seq1 G (.rt b d e) = some (.rt b d e) := id rfl
theorem sNil_eq (env : En) : sNil env = some (.nx env) := id rfl
theorem sBk_eq (env : En) : sBk env = some (.bk env) := id rfl
theorem sCt_eq (env : En) : sCt env = some (.ct env) := id rfl
theorem sRetN_eq (env : En) : sRetN env = some (.rt false .non env) := id rfl
def se1 (o : Option (D × En)) : Option Out := o.map fun p => .nx p.2
theorem sE_eq (f : FE) (env : En) : sE f env = se1 (f env) := id rfl
theorem se1_eq (d : D) (e : En) : se1 (some (d, e)) = some (.nx e) := id rfl
def sret1 (b : Bool) (o : Option (D × En)) : Option Out := o.map fun p => .rt b p.1 p.2
theorem sRet_eq (f : FE) (env : En) : sRet f env = sret1 false (f env) := id rfl
theorem sRetF_eq (f : FE) (env : En) : sRetF f env = sret1 true (f env) := id rfl
theorem sret1_eq (b : Bool) (d : D) (e : En) : sret1 b (some (d, e)) = some (.rt b d e) := id rfl
def sRetOw1 (i : Nat) (env : En) : Option (Option Sl) → Option Out
  | some (some (.ow, d)) => some (.rt true d (env.set i none))
  | _ => none
theorem sRetOw_eq (i : Nat) (env : En) : sRetOw i env = sRetOw1 i env env[i]? := by
  unfold sRetOw sRetOw1
  all_goals (split <;> rename_i h <;> simp_all)
theorem sRetOw1_eq (i : Nat) (env : En) (d : D) : sRetOw1 i env (some (some (.ow, d))) = some (.rt true d (env.set i none)) := id rfl
def sif1 (F G : FS) (p : D × En) : Option Out := match p.1 with
  | .bl true => F p.2
  | .bl false => G p.2
  | _ => none
theorem sIf_eq (c : FE) (F G : FS) (env : En) : sIf c F G env = (c env).bind (sif1 F G) := id rfl
theorem sif1_eq (F G : FS) (b : Bool) (e : En) : sif1 F G (.bl b, e) = if b = true then F e else G e := by cases b <;> rfl
def sg2 (o : Option En) : Option Out := o.map Out.nx
theorem sg2_eq (e : En) : sg2 (some e) = some (.nx e) := id rfl
def sg1 (g : FG) (p : D × En) : Option Out := sg2 (g p.2 p.1)
theorem sG_eq (f : FE) (g : FG) (env : En) : sG f g env = (f env).bind (sg1 g) := id rfl
theorem sg1_eq (g : FG) (d : D) (e : En) : sg1 g (d, e) = sg2 (g e d) := id rfl
def okk : Option (Option Sl) → Bool
  | some (some (.pn, _)) => false
  | some _ => true
  | none => false
theorem okSet_eq (env : En) (i : Nat) : okSet env i = okk env[i]? := by
  unfold okSet okk
  all_goals (split <;> rename_i h <;> simp_all)
theorem okk_none : okk (some none) = true := id rfl
theorem okk_sh (d : D) : okk (some (some (.sh, d))) = true := id rfl
theorem okk_ow (d : D) : okk (some (some (.ow, d))) = true := id rfl
theorem gN_eq (i : Nat) (env : En) (d : D) : gN i env d = if okSet env i = true then some (env.set i (some (.sh, d))) else none := by
  unfold gN
  cases okSet env i <;> rfl
def ow1 (i : Nat) (p : D × En) : Option Out := if okSet p.2 i = true then some (.nx (p.2.set i (some (.ow, p.1)))) else none
theorem sOw_eq (i : Nat) (f : FE) (env : En) : sOw i f env = (f env).bind (ow1 i) := by
  unfold sOw
  cases f env with
  | none => rfl
  | some p =>
    simp only [Option.bind_some, ow1]
theorem ow1_eq (i : Nat) (d : D) (e : En) : ow1 i (d, e) = if okSet e i = true then some (.nx (e.set i (some (.ow, d)))) else none := id rfl
def fz1 (i : Nat) (F : FS) (env : En) : Option (Option Sl) → Option Out
  | some (some (.ow, d)) => F (env.set i (some (.sh, d)))
  | _ => F env
theorem sFz_eq (i : Nat) (F : FS) (env : En) : sFz i F env = fz1 i F env env[i]? := by
  unfold sFz fz1
  all_goals (split <;> rename_i h <;> simp_all)
theorem fz1_ow (i : Nat) (F : FS) (env : En) (d : D) : fz1 i F env (some (some (.ow, d))) = F (env.set i (some (.sh, d))) := id rfl
theorem fz1_sh (i : Nat) (F : FS) (env : En) (d : D) : fz1 i F env (some (some (.sh, d))) = F env := id rfl
theorem fz1_pn (i : Nat) (F : FS) (env : En) (d : D) : fz1 i F env (some (some (.pn, d))) = F env := id rfl
theorem fz1_no (i : Nat) (F : FS) (env : En) : fz1 i F env (some none) = F env := id rfl
def stl3 (i : Nat) (k : Kd) (env : En) (ds : List D) (v : D) (o : Option Nat) : Option Out := o.map fun j => .nx (env.set i (some (k, .lst (ds.set j v))))
theorem stl3_eq (i : Nat) (k : Kd) (env : En) (ds : List D) (v : D) (j : Nat) : stl3 i k env ds v (some j) = some (.nx (env.set i (some (k, .lst (ds.set j v))))) := id rfl
def stl2 (i : Nat) (v : D) (env : En) (n : Int) : Option (Option Sl) → Option Out
  | some (some (.sh, _)) => none
  | some (some (k, .lst ds)) => stl3 i k env ds v (ixN ds.length n)
  | _ => none
theorem stl2_ow (i : Nat) (v : D) (env : En) (n : Int) (ds : List D) : stl2 i v env n (some (some (.ow, .lst ds))) = stl3 i .ow env ds v (ixN ds.length n) := id rfl
theorem stl2_pn (i : Nat) (v : D) (env : En) (n : Int) (ds : List D) : stl2 i v env n (some (some (.pn, .lst ds))) = stl3 i .pn env ds v (ixN ds.length n) := id rfl
def stl1 (i : Nat) (v : D) (q : D × En) : Option Out := match q.1 with
  | .int n => stl2 i v q.2 n q.2[i]?
  | _ => none
theorem stl1_eq (i : Nat) (v : D) (n : Int) (e : En) : stl1 i v (.int n, e) = stl2 i v e n e[i]? := id rfl
def stl0 (i : Nat) (fi : FE) (p : D × En) : Option Out := (oS i p.2).bind fun _ => (fi p.2).bind (stl1 i p.1)
theorem stl0_eq (i : Nat) (fi : FE) (v : D) (e : En) (o : Ov × En) (h : oS i e = some o) : stl0 i fi (v, e) = (fi e).bind (stl1 i v) := by
  unfold stl0
  rw [h]
  rfl
theorem sSetL_eq (i : Nat) (fi fv : FE) (env : En) : sSetL i fi fv env = (fv env).bind (stl0 i fi) := by
  unfold sSetL
  cases fv env with
  | none => rfl
  | some p =>
    simp only [Option.bind_some, stl0]
    cases oS i p.2 with
    | none => rfl
    | some o =>
      simp only [Option.bind_some]
      cases fi p.2 with
      | none => rfl
      | some q =>
        simp only [Option.bind_some, stl1]
        cases q.1 <;> try rfl
        simp only [stl2, stl3]
        split
        · rename_i k ds h
          cases k <;> simp_all [stl2, stl3]
        · rename_i h
          split
          · rfl
          · rename_i h2
            exact absurd h2 (h _ _)
          · rfl
def sfor1 (pt : FG) (body : FS) (p : List D × Bs × En) : Option Out := forL p.2.1 pt body p.1 p.2.2
theorem sFor_eq (src : FI) (pt : FG) (body : FS) (env : En) : sFor src pt body env = (src env).bind (sfor1 pt body) := id rfl
theorem sfor1_eq (pt : FG) (body : FS) (items : List D) (bs : Bs) (e : En) : sfor1 pt body (items, bs, e) = forL bs pt body items e := id rfl
theorem sWhile_eq (n : Nat) (c : FE) (body : FS) (env : En) : sWhile n c body env = whL c body n env := id rfl
def il2 (o : Ov) (env : En) : Option D → Option (List D × Bs × En)
  | some (.lst ds) => some (ds, bOf o (.lst ds), env)
  | _ => none
def il1 (p : Ov × En) : Option (List D × Bs × En) := il2 p.1 p.2 (fetch p.2 p.1)
theorem iL_eq (fo : FO) (env : En) : iL fo env = (fo env).bind il1 := by
  unfold iL
  cases fo env with
  | none => rfl
  | some p =>
    simp only [Option.bind_some, il1, il2]
    all_goals (split <;> rename_i h <;> simp_all)
theorem il1_eq (o : Ov) (e : En) : il1 (o, e) = il2 o e (fetch e o) := id rfl
theorem il2_eq (o : Ov) (e : En) (ds : List D) : il2 o e (some (.lst ds)) = some (ds, bOf o (.lst ds), e) := id rfl
theorem bOf_d (d e : D) : bOf (.d d) e = [] := id rfl
theorem bOf_s (i : Nat) (e : D) : bOf (.s i) e = [(i, e)] := id rfl
def ir1 (p : D × En) : Option (List D × Bs × En) := match p.1 with
  | .int n => if -1000000000 ≤ n ∧ n < 1000000000 then some (rng 0 n.toNat, [], p.2) else none
  | _ => none
theorem iR1_eq (fa : FE) (env : En) : iR1 fa env = (fa env).bind ir1 := id rfl
theorem ir1_eq (n : Int) (e : En) : ir1 (.int n, e) = if -1000000000 ≤ n ∧ n < 1000000000 then some (rng 0 n.toNat, [], e) else none := id rfl
theorem forL_nil (pt : FG) (body : FS) (env : En) : forL [] pt body [] env = some (.nx env) := id rfl
def for1 (bs : Bs) (pt : FG) (body : FS) (ds : List D) : Out → Option Out
  | .nx e => forL bs pt body ds e
  | .ct e => forL bs pt body ds e
  | .bk e => some (.nx e)
  | .rt b z e => some (.rt b z e)
def for0 (bs : Bs) (pt : FG) (body : FS) (ds : List D) (e : En) : Option Out := (body e).bind (for1 bs pt body ds)
theorem forL_cons (pt : FG) (body : FS) (d : D) (ds : List D) (env : En) : forL [] pt body (d :: ds) env = (pt env d).bind (for0 [] pt body ds) := by
  rw [forL]
  simp only [chkB, List.all_nil, if_true]
  cases pt env d with
  | none => rfl
  | some e =>
    simp only [Option.bind_some, for0]
    cases body e with
    | none => rfl
    | some o => cases o <;> rfl
theorem for0_eq (bs : Bs) (pt : FG) (body : FS) (ds : List D) (e : En) : for0 bs pt body ds e = (body e).bind (for1 bs pt body ds) := id rfl
theorem for1_nx (bs : Bs) (pt : FG) (body : FS) (ds : List D) (e : En) : for1 bs pt body ds (.nx e) = forL bs pt body ds e := id rfl
theorem for1_ct (bs : Bs) (pt : FG) (body : FS) (ds : List D) (e : En) : for1 bs pt body ds (.ct e) = forL bs pt body ds e := id rfl
theorem for1_bk (bs : Bs) (pt : FG) (body : FS) (ds : List D) (e : En) : for1 bs pt body ds (.bk e) = some (.nx e) := id rfl
theorem for1_rt (bs : Bs) (pt : FG) (body : FS) (ds : List D) (b : Bool) (z : D) (e : En) : for1 bs pt body ds (.rt b z e) = some (.rt b z e) := id rfl
def wh2 (c : FE) (body : FS) (n : Nat) : Out → Option Out
  | .nx e => whL c body n e
  | .ct e => whL c body n e
  | .bk e => some (.nx e)
  | .rt b z e => some (.rt b z e)
def wh1 (c : FE) (body : FS) (n : Nat) (p : D × En) : Option Out := match p.1 with
  | .bl false => some (.nx p.2)
  | .bl true => (body p.2).bind (wh2 c body n)
  | _ => none
theorem whL_succ (c : FE) (body : FS) (n : Nat) (env : En) : whL c body (n + 1) env = (c env).bind (wh1 c body n) := by
  rw [whL]
  cases c env with
  | none => rfl
  | some p =>
    obtain ⟨d, e⟩ := p
    simp only [Option.bind_some, wh1]
    cases d <;> rfl
theorem wh1_eq (c : FE) (body : FS) (n : Nat) (b : Bool) (e : En) : wh1 c body n (.bl b, e) = if b = true then (body e).bind (wh2 c body n) else some (.nx e) := by cases b <;> rfl
theorem wh2_nx (c : FE) (body : FS) (n : Nat) (e : En) : wh2 c body n (.nx e) = whL c body n e := id rfl
theorem wh2_ct (c : FE) (body : FS) (n : Nat) (e : En) : wh2 c body n (.ct e) = whL c body n e := id rfl
theorem wh2_bk (c : FE) (body : FS) (n : Nat) (e : En) : wh2 c body n (.bk e) = some (.nx e) := id rfl
theorem wh2_rt (c : FE) (body : FS) (n : Nat) (b : Bool) (z : D) (e : En) : wh2 c body n (.rt b z e) = some (.rt b z e) := id rfl
def fn1 (ks : List Kd) : Option Out → Option Res
  | some (.rt own d e) => (outsOf ks e).map fun o => .ok own d o
  | some (.nx e) => (outsOf ks e).map fun o => .ok false .non o
  | _ => none
theorem fnF_eq (ks : List Kd) (n : Nat) (F : FS) (ds : List D) (h : ds.length = ks.length) : fnF ks n F ds = fn1 ks (F (mkEn ks ds ++ List.replicate n none)) := by
  unfold fnF fn1
  rw [if_pos h]
  all_goals (split <;> rename_i h2 <;> simp_all)
theorem fn1_rt (ks : List Kd) (own : Bool) (d : D) (e : En) : fn1 ks (some (.rt own d e)) = (outsOf ks e).map fun o => .ok own d o := id rfl
theorem fn1_nx (ks : List Kd) (e : En) : fn1 ks (some (.nx e)) = (outsOf ks e).map fun o => .ok false .non o := id rfl
def cv3 (env : En) : Option Res → Option (Bool × D × En)
  | some (.ok own d _) => some (own, d, env)
  | none => none
def cv2 (ks : List Kd) (g : FN) (env : En) (ds : List D) : Option (Bool × D × En) := if allSh ks = true ∧ ds.length = ks.length then cv3 env (g ds) else none
def cv1 (ks : List Kd) (g : FN) (p : List Ov × En) : Option (Bool × D × En) := (allD p.1).bind (cv2 ks g p.2)
def cvE (o : Option (Bool × D × En)) : Option (D × En) := o.map fun r => (r.2.1, r.2.2)
def cvF : Option (Bool × D × En) → Option (D × En)
  | some (true, d, e) => some (d, e)
  | _ => none
theorem exV_eq (ks : List Kd) (g : FN) (fa : FA) (env : En) : exV ks g fa env = (fa env).bind (cv1 ks g) := by
  unfold exV
  cases fa env with
  | none => rfl
  | some p =>
    simp only [Option.bind_some, cv1]
    cases allD p.1 with
    | none => rfl
    | some ds =>
      simp only [Option.bind_some, cv2]
      split
      · cases g ds with
        | none => rfl
        | some r => cases r; rfl
      · rfl
theorem eCall_eq (ks : List Kd) (g : FN) (fa : FA) (env : En) : eCall ks g fa env = cvE ((fa env).bind (cv1 ks g)) := by
  unfold eCall
  rw [exV_eq]
  rfl
theorem eCallF_eq (ks : List Kd) (g : FN) (fa : FA) (env : En) : eCallF ks g fa env = cvF ((fa env).bind (cv1 ks g)) := by
  unfold eCallF
  rw [exV_eq]
  cases (fa env).bind (cv1 ks g) with
  | none => rfl
  | some r =>
    obtain ⟨o, d, e⟩ := r
    cases o <;> rfl
theorem cv1_eq (ks : List Kd) (g : FN) (os : List Ov) (e : En) : cv1 ks g (os, e) = (allD os).bind (cv2 ks g e) := id rfl
theorem cv2_eq (ks : List Kd) (g : FN) (e : En) (ds : List D) (h : allSh ks = true) (h2 : ds.length = ks.length) : cv2 ks g e ds = cv3 e (g ds) := if_pos ⟨h, h2⟩
theorem cv2_1 (g : FN) (e : En) (a : D) : cv2 [.sh] g e [a] = cv3 e (g [a]) := id rfl
theorem cv2_2 (g : FN) (e : En) (a b : D) : cv2 [.sh, .sh] g e [a, b] = cv3 e (g [a, b]) := id rfl
theorem cv2_3 (g : FN) (e : En) (a b c : D) : cv2 [.sh, .sh, .sh] g e [a, b, c] = cv3 e (g [a, b, c]) := id rfl
theorem cv3_eq (e : En) (own : Bool) (d : D) (o : List D) : cv3 e (some (.ok own d o)) = some (own, d, e) := id rfl
theorem cvE_eq (own : Bool) (d : D) (e : En) : cvE (some (own, d, e)) = some (d, e) := id rfl
theorem cvF_eq (d : D) (e : En) : cvF (some (true, d, e)) = some (d, e) := id rfl
def cb2 (env : En) : Option Res → Option (D × En)
  | some (.ok false d _) => if flat d = true then some (d, env) else none
  | _ => none
def cb1 (ks : List Kd) (g : FN) (env : En) (ds : List D) : Option (D × En) := if allSh ks = true ∧ ds.length = ks.length then cb2 env (g ds) else none
def cb0 (ks : List Kd) (g : FN) (p : List Ov × En) : Option (D × En) := (fetchs p.2 p.1).bind (cb1 ks g p.2)
theorem eCallB_eq (ks : List Kd) (g : FN) (fa : FA) (env : En) : eCallB ks g fa env = (fa env).bind (cb0 ks g) := by
  unfold eCallB
  cases fa env with
  | none => rfl
  | some p =>
    simp only [Option.bind_some, cb0]
    cases fetchs p.2 p.1 with
    | none => rfl
    | some ds =>
      simp only [Option.bind_some, cb1]
      split
      · simp only [cb2]
        all_goals (split <;> rename_i h <;> simp_all)
      · rfl
theorem cb0_eq (ks : List Kd) (g : FN) (os : List Ov) (e : En) : cb0 ks g (os, e) = (fetchs e os).bind (cb1 ks g e) := id rfl
theorem cb1_1 (g : FN) (e : En) (a : D) : cb1 [.sh] g e [a] = cb2 e (g [a]) := id rfl
theorem cb1_2 (g : FN) (e : En) (a b : D) : cb1 [.sh, .sh] g e [a, b] = cb2 e (g [a, b]) := id rfl
theorem cb1_3 (g : FN) (e : En) (a b c : D) : cb1 [.sh, .sh, .sh] g e [a, b, c] = cb2 e (g [a, b, c]) := id rfl
theorem cb2_bl (e : En) (b : Bool) (o : List D) : cb2 e (some (.ok false (.bl b) o)) = some (.bl b, e) := id rfl
theorem cb2_int (e : En) (b : Int) (o : List D) : cb2 e (some (.ok false (.int b) o)) = some (.int b, e) := id rfl
theorem cb2_str (e : En) (b : List Nat) (o : List D) : cb2 e (some (.ok false (.str b) o)) = some (.str b, e) := id rfl
def cp4 (i : Nat) (k : Kd) (env : En) : Option Res → Option (Bool × D × En)
  | some (.ok own d (d1 :: _)) => some (own, d, env.set i (some (k, d1)))
  | _ => none
def cp3 (i : Nat) (ks : List Kd) (g : FN) (env : En) (ds : List D) : Option (Option Sl) → Option (Bool × D × En)
  | some (some (k, d0)) => if k ≠ .sh ∧ allSh ks = true ∧ ds.length = ks.length then cp4 i k env (g (d0 :: ds)) else none
  | _ => none
def cp2 (i : Nat) (ks : List Kd) (g : FN) (env : En) (ds : List D) : Option (Bool × D × En) := cp3 i ks g env ds env[i]?
def cp1 (i : Nat) (ks : List Kd) (g : FN) (p : List Ov × En) : Option (Bool × D × En) := (allD p.1).bind (cp2 i ks g p.2)
def cp0 (i : Nat) (ks : List Kd) (g : FN) (fa : FA) (env : En) : Option (Option Sl) → Option (Bool × D × En)
  | some (some _) => (fa env).bind (cp1 i ks g)
  | _ => none
theorem exP_eq (i : Nat) (ks : List Kd) (g : FN) (fa : FA) (env : En) : exP i ks g fa env = cp0 i ks g fa env env[i]? := by
  unfold exP
  rw [oS_eq]
  unfold oS_k cp0
  split
  · rename_i h
    simp only [Option.bind_some]
    cases fa env with
    | none => rfl
    | some p =>
      simp only [Option.bind_some, cp1]
      cases allD p.1 with
      | none => rfl
      | some ds =>
        simp only [Option.bind_some, cp2, cp3]
        all_goals (split <;> rename_i h2 <;> simp_all)
        split
        · simp only [cp4]
          all_goals (split <;> rename_i h3 <;> simp_all)
        · rfl
  · rfl
theorem eCallP_eq (i : Nat) (ks : List Kd) (g : FN) (fa : FA) (env : En) : eCallP i ks g fa env = cvE (cp0 i ks g fa env env[i]?) := by
  unfold eCallP
  rw [exP_eq]
  rfl
theorem eCallPF_eq (i : Nat) (ks : List Kd) (g : FN) (fa : FA) (env : En) : eCallPF i ks g fa env = cvF (cp0 i ks g fa env env[i]?) := by
  unfold eCallPF
  rw [exP_eq]
  cases cp0 i ks g fa env env[i]? with
  | none => rfl
  | some r =>
    obtain ⟨o, d, e⟩ := r
    cases o <;> rfl
theorem cp0_eq (i : Nat) (ks : List Kd) (g : FN) (fa : FA) (env : En) (s : Sl) : cp0 i ks g fa env (some (some s)) = (fa env).bind (cp1 i ks g) := id rfl
theorem cp1_eq (i : Nat) (ks : List Kd) (g : FN) (os : List Ov) (e : En) : cp1 i ks g (os, e) = (allD os).bind (cp2 i ks g e) := id rfl
theorem cp2_eq (i : Nat) (ks : List Kd) (g : FN) (e : En) (ds : List D) : cp2 i ks g e ds = cp3 i ks g e ds e[i]? := id rfl
theorem cp3_0 (i : Nat) (g : FN) (e : En) (k : Kd) (d0 : D) (h : k ≠ .sh) : cp3 i [] g e [] (some (some (k, d0))) = cp4 i k e (g [d0]) := if_pos ⟨h, rfl, rfl⟩
theorem cp3_ow0 (i : Nat) (g : FN) (e : En) (d0 : D) : cp3 i [] g e [] (some (some (.ow, d0))) = cp4 i .ow e (g [d0]) := id rfl
theorem cp3_ow1 (i : Nat) (g : FN) (e : En) (d0 a : D) : cp3 i [.sh] g e [a] (some (some (.ow, d0))) = cp4 i .ow e (g [d0, a]) := id rfl
theorem cp3_ow2 (i : Nat) (g : FN) (e : En) (d0 a b : D) : cp3 i [.sh, .sh] g e [a, b] (some (some (.ow, d0))) = cp4 i .ow e (g [d0, a, b]) := id rfl
theorem cp3_pn0 (i : Nat) (g : FN) (e : En) (d0 : D) : cp3 i [] g e [] (some (some (.pn, d0))) = cp4 i .pn e (g [d0]) := id rfl
theorem cp3_pn1 (i : Nat) (g : FN) (e : En) (d0 a : D) : cp3 i [.sh] g e [a] (some (some (.pn, d0))) = cp4 i .pn e (g [d0, a]) := id rfl
theorem cp3_pn2 (i : Nat) (g : FN) (e : En) (d0 a b : D) : cp3 i [.sh, .sh] g e [a, b] (some (some (.pn, d0))) = cp4 i .pn e (g [d0, a, b]) := id rfl
theorem cp4_eq (i : Nat) (k : Kd) (e : En) (own : Bool) (d d1 : D) (o : List D) : cp4 i k e (some (.ok own d (d1 :: o))) = some (own, d, e.set i (some (k, d1))) := id rfl
def lc2 (vs : List Nat) (e1 : En) (o : Option (List D × En)) : Option (D × En) := o.map fun r => (.lst r.1, rest e1 r.2 vs)
theorem lc2_eq (vs : List Nat) (e1 : En) (ds : List D) (e : En) : lc2 vs e1 (some (ds, e)) = some (.lst ds, rest e1 e vs) := id rfl
def lc1 (vs : List Nat) (pt : FG) (c f : FE) (p : List D × Bs × En) : Option (D × En) := if nonOw p.2.2 vs = true ∧ p.2.1.all (fun b => decide (b.1 ∉ vs)) = true then lc2 vs p.2.2 (lcL p.2.1 vs pt c f p.1 (wipeE p.2.2 vs) []) else none
theorem eLc_eq (src : FI) (vs : List Nat) (pt : FG) (c f : FE) (env : En) : eLc src vs pt c f env = (src env).bind (lc1 vs pt c f) := by
  unfold eLc
  cases src env with
  | none => rfl
  | some p =>
    simp only [Option.bind_some, lc1, Bool.and_eq_true]
    rfl
theorem lc1_eq (vs : List Nat) (pt : FG) (c f : FE) (items : List D) (bs : Bs) (e : En) (h : nonOw e vs = true) (h2 : bs.all (fun b => decide (b.1 ∉ vs)) = true) : lc1 vs pt c f (items, bs, e) = lc2 vs e (lcL bs vs pt c f items (wipeE e vs) []) := if_pos ⟨h, h2⟩
def dc2 (vs : List Nat) (e1 : En) (o : Option (List (Ky × D) × En)) : Option (D × En) := o.map fun r => (.dic r.1, rest e1 r.2 vs)
theorem dc2_eq (vs : List Nat) (e1 : En) (ds : List (Ky × D)) (e : En) : dc2 vs e1 (some (ds, e)) = some (.dic ds, rest e1 e vs) := id rfl
def dc1 (vs : List Nat) (pt : FG) (c fk fv : FE) (p : List D × Bs × En) : Option (D × En) := if nonOw p.2.2 vs = true ∧ p.2.1.all (fun b => decide (b.1 ∉ vs)) = true then dc2 vs p.2.2 (dcL p.2.1 vs pt c fk fv p.1 (wipeE p.2.2 vs) []) else none
theorem eDc_eq (src : FI) (vs : List Nat) (pt : FG) (c fk fv : FE) (env : En) : eDc src vs pt c fk fv env = (src env).bind (dc1 vs pt c fk fv) := by
  unfold eDc
  cases src env with
  | none => rfl
  | some p =>
    simp only [Option.bind_some, dc1, Bool.and_eq_true]
    rfl
theorem dc1_eq (vs : List Nat) (pt : FG) (c fk fv : FE) (items : List D) (bs : Bs) (e : En) (h : nonOw e vs = true) (h2 : bs.all (fun b => decide (b.1 ∉ vs)) = true) : dc1 vs pt c fk fv (items, bs, e) = dc2 vs e (dcL bs vs pt c fk fv items (wipeE e vs) []) := if_pos ⟨h, h2⟩
end Qd
namespace Qd
open PySem PySem.Spec L2
theorem bnd_some {α β : Type} (a : α) (f : α → Option β) : (some a).bind f = f a := id rfl
theorem mp_some {α β : Type} (a : α) (f : α → β) : (some a).map f = some (f a) := id rfl
theorem gt0 {α : Type} (a : α) (l : List α) : (a :: l)[0]? = some a := id rfl
theorem gtS {α : Type} (a : α) (l : List α) (n : Nat) : (a :: l)[n + 1]? = l[n]? := id rfl
theorem st0 {α : Type} (a b : α) (l : List α) : (a :: l).set 0 b = b :: l := id rfl
theorem stS {α : Type} (a b : α) (l : List α) (n : Nat) : (a :: l).set (n + 1) b = a :: l.set n b := id rfl
theorem gd_some {α : Type} (a b : α) : (some a).getD b = a := id rfl
theorem gd_none {α : Type} (b : α) : (none : Option α).getD b = b := id rfl
theorem wipe0 (e : En) : wipeE e [] = e := id rfl
theorem wipe1 (e : En) (v : Nat) (vs : List Nat) : wipeE e (v :: vs) = (wipeE e vs).set v none := id rfl
theorem rest0 (e f : En) : Qd.rest e f [] = f := id rfl
theorem rest1 (e f : En) (v : Nat) (vs : List Nat) : Qd.rest e f (v :: vs) = (Qd.rest e f vs).set v (e[v]?.getD none) := id rfl
theorem atI_of {α : Type} {ds : List α} {n : Nat} {d : α} (h : ds[n]? = some d) : atI ds (n : Int) = some d := by
  have hl : n < ds.length := (List.getElem?_eq_some_iff.mp h).1
  unfold atI ixN
  rw [if_pos (by omega), if_pos (by omega)]
  simpa using h
theorem ixD_l {ds : List D} {n : Nat} {d : D} (h : ds[n]? = some d) : ixD (.lst ds) (.int (n : Int)) = some d := atI_of h
theorem ixD_t {ds : List D} {n : Nat} {d : D} (h : ds[n]? = some d) : ixD (.tup ds) (.int (n : Int)) = some d := atI_of h
theorem ix0 (a : D) (r : List D) : ixD (.lst (a :: r)) (.int 0) = some a := ixD_l (n := 0) rfl
theorem ix1 (a b : D) (r : List D) : ixD (.lst (a :: b :: r)) (.int 1) = some b := ixD_l (n := 1) rfl
theorem ix2 (a b c : D) (r : List D) : ixD (.lst (a :: b :: c :: r)) (.int 2) = some c := ixD_l (n := 2) rfl
theorem ix3 (a b c d : D) (r : List D) : ixD (.lst (a :: b :: c :: d :: r)) (.int 3) = some d := ixD_l (n := 3) rfl
theorem ix4 (a b c d e : D) (r : List D) : ixD (.lst (a :: b :: c :: d :: e :: r)) (.int 4) = some e := ixD_l (n := 4) rfl
theorem ixT0 (a : D) (r : List D) : ixD (.tup (a :: r)) (.int 0) = some a := ixD_t (n := 0) rfl
theorem ixT1 (a b : D) (r : List D) : ixD (.tup (a :: b :: r)) (.int 1) = some b := ixD_t (n := 1) rfl
theorem ixT2 (a b c : D) (r : List D) : ixD (.tup (a :: b :: c :: r)) (.int 2) = some c := ixD_t (n := 2) rfl
theorem ixN_of {n k : Nat} (h : k < n) : ixN n (k : Int) = some k := by
  unfold ixN
  rw [if_pos (by omega), if_pos (by omega)]
  simp
def stk (i : Nat) (fi : FE) (v : D) (e : En) (_ : Ov × En) : Option Out := (fi e).bind (stl1 i v)
theorem stl0_eq2 (i : Nat) (fi : FE) (v : D) (e : En) : stl0 i fi (v, e) = (oS i e).bind (stk i fi v e) := id rfl
theorem stk_eq (i : Nat) (fi : FE) (v : D) (e : En) (o : Ov × En) : stk i fi v e o = (fi e).bind (stl1 i v) := id rfl
theorem ixN50 : ixN 5 0 = some 0 := id rfl
theorem ixN51 : ixN 5 1 = some 1 := id rfl
theorem ixN52 : ixN 5 2 = some 2 := id rfl
theorem ixN53 : ixN 5 3 = some 3 := id rfl
theorem ixN54 : ixN 5 4 = some 4 := id rfl
theorem addD_i (i j : Int) : addD (.int i) (.int j) = some (.int (i + j)) := id rfl
theorem addD_s (a b : List Nat) (h : a.length + b.length ≤ 1000000) : addD (.str a) (.str b) = some (.str (a ++ b)) := if_pos (Nat.le_trans h (by decide))
theorem subD_i (i j : Int) : subD (.int i) (.int j) = some (.int (i - j)) := id rfl
theorem mulD_r (i j : Int) (h : -18446744073709551616 < j ∧ j < 18446744073709551616) : mulD (.int i) (.int j) = some (.int (i * j)) := if_pos (.inr h)
theorem mulD_l (i j : Int) (h : -18446744073709551616 < i ∧ i < 18446744073709551616) : mulD (.int i) (.int j) = some (.int (i * j)) := if_pos (.inl h)
theorem modD_i (i j : Int) (h : 0 < j) : modD (.int i) (.int j) = some (.int (i % j)) := if_pos h
theorem fdivD_i (i j : Int) (h : 0 < j ∧ j < 1073741824) : fdivD (.int i) (.int j) = some (.int (i / j)) := if_pos h
theorem ltD_i (i j : Int) : ltD (.int i) (.int j) = some (.bl (decide (i < j))) := id rfl
theorem ltD_s (i j : List Nat) : ltD (.str i) (.str j) = some (.bl (decide (i < j))) := id rfl
theorem leD_i (i j : Int) : leD (.int i) (.int j) = some (.bl (decide (i ≤ j))) := id rfl
theorem gtD_i (i j : Int) : gtD (.int i) (.int j) = some (.bl (decide (j < i))) := id rfl
theorem gtD_s (i j : List Nat) : gtD (.str i) (.str j) = some (.bl (decide (j < i))) := id rfl
theorem geD_i (i j : Int) : geD (.int i) (.int j) = some (.bl (decide (j ≤ i))) := id rfl
theorem powD_18 : powD (.int 10) (.int 18) = some (.int 1000000000000000000) := by
  show (if (0:Int) ≤ 18 ∧ (18:Int) ≤ 1000000 ∧ Int.natAbs 10 < 2 ^ 64 then some (D.int (10 ^ Int.toNat 18)) else none) = _
  rw [if_pos (by decide)]
  rfl
theorem lenD_l (ds : List D) : lenD [.lst ds] = some (.int ds.length) := id rfl
theorem lenD_t (ds : List D) : lenD [.tup ds] = some (.int ds.length) := id rfl
theorem lenD_d (ds : List (Ky × D)) : lenD [.dic ds] = some (.int ds.length) := id rfl
theorem lenD_s (x : List Nat) (h : x.length ≤ 1000000) : lenD [.str x] = some (.int x.length) := if_pos (Nat.le_trans h (by decide))
theorem eqD_s (a b : List Nat) : eqD (.str a) (.str b) = some (.bl (decide (a = b))) := id rfl
theorem neD_s (a b : List Nat) : neD (.str a) (.str b) = some (.bl (!decide (a = b))) := id rfl
theorem eqD_of {d e : D} (h : shp d = true) (h2 : shp e = true) : eqD d e = some (.bl (eqB d e)) := by
  unfold eqD
  split
  · rename_i a b
    simp only [Option.some.injEq, D.bl.injEq]
    unfold eqB
    simp only [toPy, PyData.eqv]
    by_cases hab : a = b
    · subst hab
      simp
    · rw [decide_eq_false hab]
      symm
      rw [beq_eq_false_iff_ne]
      exact fun z => hab (S_inj z)
  · rw [if_pos (by simp [h, h2])]
theorem shp_i (i : Int) : shp (.int i) = true := by
  unfold shp SeqAt.shaped
  simp [toPy, PyData.canLay0, PyData.depth]
theorem eqD_i (i j : Int) : eqD (.int i) (.int j) = some (.bl (decide (i = j))) := by
  rw [eqD_of (shp_i i) (shp_i j)]
  unfold eqB
  simp only [toPy, PyData.eqv]
  by_cases h : i = j
  · subst h
    simp
  · rw [decide_eq_false h]
    simp [h]
theorem neD_of {d e : D} {b : Bool} (h : eqD d e = some (.bl b)) : neD d e = some (.bl (!b)) := by
  unfold neD
  rw [h]
  rfl
theorem neD_i (i j : Int) : neD (.int i) (.int j) = some (.bl (!decide (i = j))) := neD_of (eqD_i i j)
/-- texts of signs that Python has -/
def okS (x : List Nat) : Bool := PyData.strOk (S x)
theorem canLayAll_str : ∀ (xs : List (List Nat)), (∀ x ∈ xs, okS x = true) → PyData.canLayAll0 (toPys (xs.map D.str)) = true
  | [], _ => rfl
  | x :: xs, h => by
    simp only [List.map_cons, toPys, toPy, PyData.canLayAll0, PyData.canLay0, Bool.and_eq_true]
    exact ⟨h x (by simp), canLayAll_str xs fun y hy => h y (by simp [hy])⟩
theorem depthAll_str : ∀ (xs : List (List Nat)), PyData.depthAll (toPys (xs.map D.str)) = 0
  | [] => rfl
  | x :: xs => by
    simp only [List.map_cons, toPys, toPy, PyData.depthAll, PyData.depth, depthAll_str xs]
    rfl
theorem shp_ls (xs : List (List Nat)) (h : ∀ x ∈ xs, okS x = true) : shp (.lst (xs.map D.str)) = true := by
  unfold shp SeqAt.shaped
  simp only [toPy, PyData.canLay0, PyData.depth, canLayAll_str xs h, depthAll_str]
  rfl
theorem eqvAll_str : ∀ (xs ys : List (List Nat)), PyData.eqvAll (toPys (xs.map D.str)) (toPys (ys.map D.str)) = decide (xs = ys)
  | [], [] => rfl
  | [], _ :: _ => by simp [toPys, PyData.eqvAll]
  | _ :: _, [] => by simp [toPys, PyData.eqvAll]
  | x :: xs, y :: ys => by
    simp only [List.map_cons, toPys, toPy, PyData.eqvAll, PyData.eqv, eqvAll_str xs ys]
    by_cases h : x = y
    · subst h
      simp
    · have e : (S x == S y) = false := by
        rw [beq_eq_false_iff_ne]
        exact fun z => h (S_inj z)
      rw [e]
      simp [h]
theorem eqD_ls (xs ys : List (List Nat)) (h : ∀ x ∈ xs, okS x = true) (h2 : ∀ x ∈ ys, okS x = true) : eqD (.lst (xs.map D.str)) (.lst (ys.map D.str)) = some (.bl (decide (xs = ys))) := by
  rw [eqD_of (shp_ls xs h) (shp_ls ys h2)]
  unfold eqB
  simp only [toPy, PyData.eqv, eqvAll_str]
theorem neD_ls (xs ys : List (List Nat)) (h : ∀ x ∈ xs, okS x = true) (h2 : ∀ x ∈ ys, okS x = true) : neD (.lst (xs.map D.str)) (.lst (ys.map D.str)) = some (.bl (!decide (xs = ys))) := neD_of (eqD_ls xs ys h h2)
end Qd
namespace Qd
open PySem PySem.Spec L2
def W {α : Type} (o : Option α) (Q : α → Prop) : Prop := ∃ a, o = some a ∧ Q a
section
variable {α β : Type} {o : Option α} {P Q : α → Prop}
theorem W.ret {a : α} (h : Q a) : W (some a) Q := ⟨a, rfl, h⟩
theorem W.mono (h : W o P) (k : ∀ a, P a → Q a) : W o Q := let ⟨a, e, p⟩ := h; ⟨a, e, k a p⟩
theorem W.bind {f : α → Option β} {R : β → Prop} (h : W o P) (k : ∀ a, P a → W (f a) R) : W (o.bind f) R := by
  obtain ⟨a, rfl, p⟩ := h
  exact k a p
end
theorem W.fn {ks : List Kd} {o : Option Out} {P : Out → Prop} {Q : Res → Prop} (h : W o P) (k : ∀ a, P a → W (fn1 ks (some a)) Q) : W (fn1 ks o) Q := by
  obtain ⟨a, rfl, p⟩ := h
  exact k a p
theorem W.lc2 {vs : List Nat} {e1 : En} {o : Option (List D × En)} {P : List D × En → Prop} {Q : D × En → Prop} (h : W o P) (k : ∀ ds e, P (ds, e) → Q (.lst ds, rest e1 e vs)) : W (Qd.lc2 vs e1 o) Q := by
  obtain ⟨⟨a, e⟩, rfl, p⟩ := h
  exact W.ret (k a e p)
theorem W.dc2 {vs : List Nat} {e1 : En} {o : Option (List (Ky × D) × En)} {P : List (Ky × D) × En → Prop} {Q : D × En → Prop} (h : W o P) (k : ∀ ds e, P (ds, e) → Q (.dic ds, rest e1 e vs)) : W (Qd.dc2 vs e1 o) Q := by
  obtain ⟨⟨a, e⟩, rfl, p⟩ := h
  exact W.ret (k a e p)
/-- what a loop's body leaves -/
def Aft (I : En → Prop) (Q : Out → Prop) : Out → Prop
  | .nx e => I e
  | .ct e => I e
  | .bk e => Q (.nx e)
  | .rt b z e => Q (.rt b z e)
theorem W.forL {bs : Bs} {pt : FG} {body : FS} {Q : Out → Prop} (I : List D → En → Prop) (h0 : ∀ e, I [] e → chkB true e bs = true ∧ Q (.nx e))
    (h1 : ∀ d ds e, I (d :: ds) e → chkB true e bs = true ∧ ∃ e1, pt e d = some e1 ∧ W (body e1) (Aft (I ds) Q)) : ∀ items e, I items e → W (Qd.forL bs pt body items e) Q
  | [], e, h => by
    unfold Qd.forL
    rw [if_pos (h0 e h).1]
    exact W.ret (h0 e h).2
  | d :: ds, e, h => by
    obtain ⟨c, e1, q1, o, q2, q3⟩ := h1 d ds e h
    unfold Qd.forL
    rw [if_pos c, q1, Option.bind_some, q2, Option.bind_some]
    cases o with
    | nx e2 => exact W.forL I h0 h1 ds e2 q3
    | ct e2 => exact W.forL I h0 h1 ds e2 q3
    | bk e2 => exact W.ret q3
    | rt b z e2 => exact W.ret q3
theorem W.whL {c : FE} {body : FS} {Q : Out → Prop} (I : Nat → En → Prop)
    (h : ∀ n e, I n e → ∃ b e1, c e = some (.bl b, e1) ∧ if b = true then W (body e1) (Aft (fun e2 => ∃ m, m < n ∧ I m e2) Q) else Q (.nx e1)) : ∀ f n e, n < f → I n e → W (Qd.whL c body f e) Q
  | 0, _, _, hl, _ => absurd hl (by omega)
  | f + 1, n, e, hl, hI => by
    obtain ⟨b, e1, q1, q2⟩ := h n e hI
    unfold Qd.whL
    rw [q1, Option.bind_some]
    cases b with
    | false => exact W.ret (by simpa using q2)
    | true =>
      obtain ⟨o, q3, q4⟩ : W (body e1) _ := by simpa using q2
      rw [q3, Option.bind_some]
      cases o with
      | nx e2 =>
        obtain ⟨m, hm, hI⟩ := q4
        exact W.whL I h f m e2 (by omega) hI
      | ct e2 =>
        obtain ⟨m, hm, hI⟩ := q4
        exact W.whL I h f m e2 (by omega) hI
      | bk e2 => exact W.ret q4
      | rt b z e2 => exact W.ret q4
/-- list comprehensions: `J` of the items that are left, the environment, and what is gathered -/
theorem W.lcL {bs : Bs} {vs : List Nat} {pt : FG} {c f : FE} {Q : List D × En → Prop} (J : List D → En → List D → Prop) (h0 : ∀ e acc, J [] e acc → chkB false e bs = true ∧ Q (acc, e))
    (h1 : ∀ d ds e acc, J (d :: ds) e acc → chkB false e bs = true ∧ ∃ e1 b e2, pt e d = some e1 ∧ c e1 = some (.bl b, e2) ∧ if b = true then ∃ z e3, f e2 = some (z, e3) ∧ acc.length < 1000000 ∧ J ds (wipeE e3 vs) (acc ++ [z]) else J ds (wipeE e2 vs) acc) : ∀ items e acc, J items e acc → W (Qd.lcL bs vs pt c f items e acc) Q
  | [], e, acc, h => by
    unfold Qd.lcL
    rw [if_pos (h0 e acc h).1]
    exact W.ret (h0 e acc h).2
  | d :: ds, e, acc, h => by
    obtain ⟨k, e1, b, e2, q1, q2, q3⟩ := h1 d ds e acc h
    unfold Qd.lcL
    rw [if_pos k, q1, Option.bind_some, q2, Option.bind_some]
    cases b with
    | true =>
      rw [if_pos rfl] at q3
      obtain ⟨z, e3, q4, q5, q6⟩ := q3
      simp only [q4, Option.bind_some]
      rw [if_pos (Nat.lt_trans q5 (by decide))]
      exact W.lcL J h0 h1 ds _ _ q6
    | false => exact W.lcL J h0 h1 ds _ _ (by simpa using q3)
theorem W.dcL {bs : Bs} {vs : List Nat} {pt : FG} {c fk fv : FE} {Q : List (Ky × D) × En → Prop} (J : List D → En → List (Ky × D) → Prop) (h0 : ∀ e acc, J [] e acc → chkB false e bs = true ∧ Q (acc, e))
    (h1 : ∀ d ds e acc, J (d :: ds) e acc → chkB false e bs = true ∧ ∃ e1 b e2, pt e d = some e1 ∧ c e1 = some (.bl b, e2) ∧ if b = true then ∃ k z w e3 e4, fk e2 = some (k, e3) ∧ fv e3 = some (w, e4) ∧ kyOf k = some z ∧ acc.length < 1000000 ∧ J ds (wipeE e4 vs) (putD acc z w) else J ds (wipeE e2 vs) acc) : ∀ items e acc, J items e acc → W (Qd.dcL bs vs pt c fk fv items e acc) Q
  | [], e, acc, h => by
    unfold Qd.dcL
    rw [if_pos (h0 e acc h).1]
    exact W.ret (h0 e acc h).2
  | d :: ds, e, acc, h => by
    obtain ⟨k, e1, b, e2, q1, q2, q3⟩ := h1 d ds e acc h
    unfold Qd.dcL
    rw [if_pos k, q1, Option.bind_some, q2, Option.bind_some]
    cases b with
    | true =>
      rw [if_pos rfl] at q3
      obtain ⟨k, z, w, e3, e4, q4, q5, q6, q7, q8⟩ := q3
      simp only [q4, q5, q6, Option.bind_some]
      rw [if_pos (Nat.lt_trans q7 (by decide))]
      exact W.dcL J h0 h1 ds _ _ q8
    | false => exact W.dcL J h0 h1 ds _ _ (by simpa using q3)
theorem cut_all {α : Type} (xs : List α) : cut xs none none = xs := by
  unfold cut
  simp [HT.sIx]
end Qd
namespace Qd
open PySem PySem.Spec L2
theorem cut_to {α : Type} (xs : List α) (n : Nat) : cut xs none (some (n : Int)) = xs.take n := by
  unfold cut
  rw [HT.sIx_none, HT.sIx_nat, List.drop_zero, Nat.sub_zero]
  by_cases h : n ≤ xs.length
  · rw [Nat.min_eq_left h]
  · rw [Nat.min_eq_right (by omega), List.take_of_length_le (by omega), List.take_of_length_le (by omega)]
theorem cut_up {α : Type} (xs : List α) : cut xs none (some (-1)) = xs.dropLast := by
  unfold cut
  rw [HT.sIx_none, List.drop_zero, Nat.sub_zero, List.dropLast_eq_take]
  congr 1
  show (if (-1:Int) < 0 then ((-1:Int) + (xs.length : Int)).toNat else min (-1:Int).toNat xs.length) = _
  rw [if_pos (by decide)]
  omega
theorem cut_last {α : Type} (xs : List α) : cut xs (some (-1)) none = xs.drop (xs.length - 1) := by
  unfold cut
  rw [HT.sIx_none]
  have e : HT.sIx xs.length 0 (some (-1)) = xs.length - 1 := by
    show (if (-1:Int) < 0 then ((-1:Int) + (xs.length : Int)).toNat else min (-1:Int).toNat xs.length) = _
    rw [if_pos (by decide)]
    omega
  rw [e, List.take_of_length_le]
  simp
theorem slS_eq (x : List Nat) (lo hi : Option Int) (h : x.length ≤ 1000000) : slS (.str x) lo hi = some (.str (cut x lo hi)) := if_pos (Nat.le_trans h (by decide))
theorem slL_eq (ds : List D) (lo hi : Option Int) : slL (.lst ds) lo hi = some (.lst (cut ds lo hi)) := id rfl
theorem slL_scr (ns : List Int) (lo hi : Option Int) : slL (.scr ns) lo hi = some (.lst ((cut ns lo hi).map D.int)) := id rfl
theorem listD_l (ds : List D) : listD [.lst ds] = some (.lst ds) := id rfl
theorem eqB_s (a b : List Nat) : eqB (.str a) (.str b) = decide (a = b) := by
  unfold eqB
  simp only [toPy, PyData.eqv]
  by_cases h : a = b
  · subst h
    simp
  · have e : (S a == S b) = false := by
      rw [beq_eq_false_iff_ne]
      exact fun z => h (S_inj z)
    rw [e]
    simp [h]
theorem eqB_i (a b : Int) : eqB (.int a) (.int b) = decide (a = b) := by
  unfold eqB
  simp only [toPy, PyData.eqv]
  by_cases h : a = b
  · subst h
    simp
  · simp [h]
theorem flats_s (xs : List (List Nat)) : (xs.map D.str).all flat = true := by
  simp [List.all_eq_true, flat]
theorem flats_i (xs : List Int) : (xs.map D.int).all flat = true := by
  simp [List.all_eq_true, flat]
theorem inD_ls (x : List Nat) (xs : List (List Nat)) : inD (.str x) (.lst (xs.map D.str)) = some (.bl (decide (x ∈ xs))) := by
  show (if flat (.str x) && (xs.map D.str).all flat then some (D.bl ((xs.map D.str).any fun e => eqB e (.str x))) else _) = _
  rw [if_pos (by rw [flats_s]; rfl)]
  congr 2
  rw [List.any_map, Bool.eq_iff_iff, List.any_eq_true, decide_eq_true_iff]
  constructor
  · rintro ⟨y, hy, h⟩
    have h : eqB (.str y) (.str x) = true := h
    rw [eqB_s] at h
    rw [← of_decide_eq_true h]
    exact hy
  · exact fun h => ⟨x, h, by show eqB (.str x) (.str x) = true; rw [eqB_s]; simp⟩
/-- a dict of texts, each with True -/
def keysD (xs : List (List Nat)) : List (Ky × D) := xs.map fun x => (Ky.s x, D.bl true)
theorem valD_keys (x : List Nat) : ∀ xs : List (List Nat), valD (keysD xs) (.s x) = if x ∈ xs then some (.bl true) else none
  | [] => rfl
  | y :: xs => by
    have ih := valD_keys x xs
    unfold valD keysD at *
    simp only [List.map_cons, List.find?_cons]
    by_cases h : y = x
    · subst h
      simp
    · have e : decide ((Ky.s y, D.bl true).1 = Ky.s x) = false := by
        simp only [decide_eq_false_iff_not]
        exact fun z => h (by cases z; rfl)
      have h2 : x ≠ y := fun z => h z.symm
      rw [e]
      simp only [ih, List.mem_cons, h2, false_or]
theorem inD_keys (x : List Nat) (xs : List (List Nat)) : inD (.str x) (.dic (keysD xs)) = some (.bl (decide (x ∈ xs))) := by
  show some (D.bl (valD (keysD xs) (.s x)).isSome) = _
  rw [valD_keys]
  by_cases h : x ∈ xs <;> simp [h]
theorem dropD_keys (x : List Nat) (xs : List (List Nat)) : dropD (keysD xs) (.s x) = keysD (xs.filter fun y => decide (y ≠ x)) := by
  unfold dropD keysD
  rw [List.filter_map]
  congr 1
  apply List.filter_congr
  intro y _
  show decide (Ky.s y ≠ Ky.s x) = decide (y ≠ x)
  rw [Bool.eq_iff_iff, decide_eq_true_iff, decide_eq_true_iff]
  exact ⟨fun h z => h (by rw [z]), fun h z => h (by cases z; rfl)⟩
theorem putD_keys (x : List Nat) (xs : List (List Nat)) (h : x ∉ xs) : putD (keysD xs) (.s x) (.bl true) = keysD (xs ++ [x]) := by
  unfold putD
  rw [if_neg]
  · simp [keysD]
  · rw [List.any_eq_true]
    rintro ⟨kv, hm, hk⟩
    obtain ⟨y, hy, rfl⟩ := List.mem_map.mp hm
    have hk : decide (Ky.s y = Ky.s x) = true := hk
    have := of_decide_eq_true hk
    cases this
    exact h hy
theorem sortD_ls (xs : List (List Nat)) (h : xs.length < 64) : sortD [.lst (xs.map D.str)] = some (.lst ((sortS xs).map D.str)) := by
  show ((strsD (xs.map D.str)).bind fun xs => if xs.length < 64 then some (D.lst ((sortS xs).map D.str)) else none) = _
  rw [strsD_map, Option.bind_some, if_pos h]
theorem sorted_uniq : ∀ {a b : List (List Nat)}, a.Pairwise (· ≤ ·) → b.Pairwise (· ≤ ·) → a.Perm b → a = b
  | [], b, _, _, p => (List.nil_perm.mp p).symm
  | x :: a, [], _, _, p => absurd (List.perm_nil.mp p) (by simp)
  | x :: a, y :: b, ha, hb, p => by
    have ha2 := List.pairwise_cons.mp ha
    have hb2 := List.pairwise_cons.mp hb
    have e : x = y := by
      have hx : x ∈ y :: b := p.mem_iff.mp (by simp)
      have hy : y ∈ x :: a := p.mem_iff.mpr (by simp)
      have h1 : y ≤ x := by
        rcases List.mem_cons.mp hx with rfl | h
        · exact List.le_refl _
        · exact hb2.1 x h
      have h2 : x ≤ y := by
        rcases List.mem_cons.mp hy with rfl | h
        · exact List.le_refl _
        · exact ha2.1 y h
      exact List.le_antisymm h2 h1
    subst e
    rw [sorted_uniq ha2.2 hb2.2 (List.Perm.cons_inv p)]
theorem sortS_congr {a b : List (List Nat)} (p : a.Perm b) : sortS a = sortS b := sorted_uniq (sortS_sorted a) (sortS_sorted b) ((sortS_perm a).trans (p.trans (sortS_perm b).symm))
theorem sortS_len (a : List (List Nat)) : (sortS a).length = a.length := (sortS_perm a).length_eq
theorem perm_of_mem {a b : List (List Nat)} (ha : a.Nodup) (hb : b.Nodup) (h : ∀ x, x ∈ a ↔ x ∈ b) : a.Perm b := (List.perm_ext_iff_of_nodup ha hb).mpr h
theorem sortS_ext {a b : List (List Nat)} (ha : a.Nodup) (hb : b.Nodup) (h : ∀ x, x ∈ a ↔ x ∈ b) : sortS a = sortS b := sortS_congr (perm_of_mem ha hb h)
theorem gPop_eq (ds : List D) (d : D) : gPop (ds ++ [d]) [] = some (d, ds) := by
  unfold gPop
  simp
theorem gPopAt_eq (ds : List D) (i : Nat) (d : D) (h : ds[i]? = some d) (h2 : ds.length ≤ 1000000) : gPopAt ds [.int (i : Int)] = some (d, ds.eraseIdx i) := by
  have hl := (List.getElem?_eq_some_iff.mp h).1
  unfold gPopAt
  simp only [Int.toNat_natCast, h]
  rw [if_pos (by omega)]
theorem catD_eq (xs ys : List D) (h : xs.length + ys.length ≤ 1000000) : catD (.lst xs) (.lst ys) = some (.lst (xs ++ ys)) := if_pos (Nat.le_trans h (by decide))
theorem allB_eq (bs : List Bool) : allB [.lst (bs.map D.bl)] = some (.bl (bs.all id)) := by
  show (bls (bs.map D.bl)).map _ = _
  rw [bls_map]
  rfl
/-- texts of noughts and ones -/
def Bin (x : List Nat) : Prop := ∀ c ∈ x, c = 48 ∨ c = 49
theorem Bin.ok {x : List Nat} (h : Bin x) : okS x = true := by
  unfold okS PyData.strOk S
  rw [List.all_toArray, List.all_eq_true]
  intro c hc
  rcases h c hc with rfl | rfl <;> rfl
end Qd
namespace Qd
open PySem PySem.Spec L2
def pk4 (i : Nat) (k : Kd) (e : En) (kvs : List (Ky × D)) (ky : Ky) (o : Option D) : Option (D × En) := o.map fun v => (v, e.set i (some (k, .dic (dropD kvs ky))))
theorem pk4_eq (i : Nat) (k : Kd) (e : En) (kvs : List (Ky × D)) (ky : Ky) (v : D) : pk4 i k e kvs ky (some v) = some (v, e.set i (some (k, .dic (dropD kvs ky)))) := id rfl
def pk3 (i : Nat) (e : En) (ky : Ky) : Option (Option Sl) → Option (D × En)
  | some (some (k, .dic kvs)) => if k = .sh then none else pk4 i k e kvs ky (valD kvs ky)
  | _ => none
theorem pk3_ow (i : Nat) (e : En) (ky : Ky) (kvs : List (Ky × D)) : pk3 i e ky (some (some (.ow, .dic kvs))) = pk4 i .ow e kvs ky (valD kvs ky) := id rfl
theorem pk3_pn (i : Nat) (e : En) (ky : Ky) (kvs : List (Ky × D)) : pk3 i e ky (some (some (.pn, .dic kvs))) = pk4 i .pn e kvs ky (valD kvs ky) := id rfl
def pk2 (i : Nat) (e : En) (ky : Ky) : Option (D × En) := pk3 i e ky e[i]?
theorem pk2_eq (i : Nat) (e : En) (ky : Ky) : pk2 i e ky = pk3 i e ky e[i]? := id rfl
def pk1 (i : Nat) (p : D × En) : Option (D × En) := (kyOf p.1).bind (pk2 i p.2)
theorem pk1_s (i : Nat) (x : List Nat) (e : En) : pk1 i (.str x, e) = pk2 i e (.s x) := id rfl
theorem pk1_i (i : Nat) (x : Int) (e : En) : pk1 i (.int x, e) = pk2 i e (.i x) := id rfl
def pk0 (i : Nat) (fk : FE) (env : En) : Option (Option Sl) → Option (D × En)
  | some (some (_, .dic _)) => (fk env).bind (pk1 i)
  | _ => none
theorem pk0_eq (i : Nat) (fk : FE) (env : En) (k : Kd) (kvs : List (Ky × D)) : pk0 i fk env (some (some (k, .dic kvs))) = (fk env).bind (pk1 i) := id rfl
theorem ePopK_eq (i : Nat) (fk : FE) (env : En) : ePopK i fk env = pk0 i fk env env[i]? := by
  unfold ePopK pk0
  split
  · rename_i h
    try rw [h]
    try simp only
    cases fk env with
    | none => rfl
    | some q =>
      simp only [Option.bind_some, pk1]
      cases kyOf q.1 with
      | none => rfl
      | some ky =>
        simp only [Option.bind_some, pk2, pk3]
        all_goals (split <;> rename_i h2 <;> simp_all [pk4])
  · rename_i h
    first
    | rfl
    | (split
       · rename_i h2
         exact absurd h2 (h _ _)
       · rfl)
def sk4 (i : Nat) (v : D) (e : En) (ky : Ky) : Option (Option Sl) → Option Out
  | some (some (k, .dic kvs)) => if k = .sh ∨ ¬ kvs.length < sizeLine then none else some (.nx (e.set i (some (k, .dic (putD kvs ky v)))))
  | _ => none
theorem sk4_ow (i : Nat) (v : D) (e : En) (ky : Ky) (kvs : List (Ky × D)) (h : kvs.length < 1000000) : sk4 i v e ky (some (some (.ow, .dic kvs))) = some (.nx (e.set i (some (.ow, .dic (putD kvs ky v))))) := by
  show (if Kd.ow = .sh ∨ ¬ kvs.length < sizeLine then none else some (Out.nx (e.set i (some (Kd.ow, D.dic (putD kvs ky v)))))) = _
  rw [if_neg]
  rintro (h2 | h2)
  · cases h2
  · exact h2 (Nat.lt_trans h (by decide))
def sk3 (i : Nat) (v : D) (e : En) (ky : Ky) : Option Out := sk4 i v e ky e[i]?
theorem sk3_eq (i : Nat) (v : D) (e : En) (ky : Ky) : sk3 i v e ky = sk4 i v e ky e[i]? := id rfl
def sk2 (i : Nat) (v : D) (p : D × En) : Option Out := (kyOf p.1).bind (sk3 i v p.2)
theorem sk2_s (i : Nat) (v : D) (x : List Nat) (e : En) : sk2 i v (.str x, e) = sk3 i v e (.s x) := id rfl
theorem sk2_i (i : Nat) (v : D) (x : Int) (e : En) : sk2 i v (.int x, e) = sk3 i v e (.i x) := id rfl
def sk1 (i : Nat) (fk : FE) (v : D) (e : En) (_ : Ov × En) : Option Out := (fk e).bind (sk2 i v)
theorem sk1_eq (i : Nat) (fk : FE) (v : D) (e : En) (o : Ov × En) : sk1 i fk v e o = (fk e).bind (sk2 i v) := id rfl
def sk0 (i : Nat) (fk : FE) (p : D × En) : Option Out := (oS i p.2).bind (sk1 i fk p.1 p.2)
theorem sk0_eq (i : Nat) (fk : FE) (v : D) (e : En) : sk0 i fk (v, e) = (oS i e).bind (sk1 i fk v e) := id rfl
theorem sSetK_eq (i : Nat) (fk fv : FE) (env : En) : sSetK i fk fv env = (fv env).bind (sk0 i fk) := id rfl
theorem listD_keys (xs : List (List Nat)) : listD [.dic (keysD xs)] = some (.lst (xs.map D.str)) := by
  show some (D.lst ((keysD xs).map _)) = _
  unfold keysD
  rw [List.map_map]
  rfl
theorem keysD_len (xs : List (List Nat)) : (keysD xs).length = xs.length := by simp [keysD]
theorem neD_nil (xs : List (List Nat)) (h : ∀ x ∈ xs, okS x = true) : neD (.lst (xs.map D.str)) (.lst []) = some (.bl (!decide (xs = []))) := neD_ls xs [] h (fun _ h => absurd h (by simp))
end Qd
namespace Qd
open PySem PySem.Spec L2
theorem lcL_filter {α : Type} {bs : Bs} {vs : List Nat} {pt : FG} {c f : FE} {e : En} (enc : α → D) (p : α → Bool) (φ : α → D) (hc : chkB false e bs = true) : ∀ (xs : List α) (acc : List D), acc.length + xs.length ≤ 1000000 →
    (∀ x ∈ xs, ∃ e1, pt e (enc x) = some e1 ∧ c e1 = some (.bl (p x), e1) ∧ (p x = true → f e1 = some (φ x, e1)) ∧ wipeE e1 vs = e) → lcL bs vs pt c f (xs.map enc) e acc = some (acc ++ (xs.filter p).map φ, e)
  | [], acc, _, _ => by
    unfold lcL
    simp [hc]
  | x :: xs, acc, hl, h => by
    obtain ⟨e1, q1, q2, q3, q4⟩ := h x (by simp)
    simp only [List.map_cons]
    unfold lcL
    rw [if_pos hc, q1, Option.bind_some, q2, Option.bind_some]
    have hl : acc.length + (xs.length + 1) ≤ 1000000 := hl
    cases hp : p x with
    | true =>
      simp only [q3 hp, Option.bind_some, q4]
      rw [if_pos (Nat.lt_of_lt_of_le (m := 1000000) (by omega) (by decide)), lcL_filter enc p φ hc xs _ (by simp; omega) fun y hy => h y (by simp [hy]), List.filter_cons_of_pos hp]
      simp
    | false =>
      simp only [q4]
      rw [lcL_filter enc p φ hc xs _ (by omega) fun y hy => h y (by simp [hy]), List.filter_cons_of_neg (by simp [hp])]
theorem filter_true {α : Type} (xs : List α) : xs.filter (fun _ => true) = xs := List.filter_eq_self.mpr fun _ _ => rfl
theorem dcL_keys {bs : Bs} {vs : List Nat} {pt : FG} {c fk fv : FE} {e : En} (hc : chkB false e bs = true) : ∀ (xs acc : List (List Nat)), acc.length + xs.length ≤ 1000000 → (acc ++ xs).Nodup →
    (∀ x ∈ xs, ∃ e1, pt e (.str x) = some e1 ∧ c e1 = some (.bl true, e1) ∧ fk e1 = some (.str x, e1) ∧ fv e1 = some (.bl true, e1) ∧ wipeE e1 vs = e) → dcL bs vs pt c fk fv (xs.map D.str) e (keysD acc) = some (keysD (acc ++ xs), e)
  | [], acc, _, _, _ => by
    unfold dcL
    simp [hc]
  | x :: xs, acc, hl, hn, h => by
    obtain ⟨e1, q1, q2, q3, q4, q5⟩ := h x (by simp)
    simp only [List.map_cons]
    unfold dcL
    rw [if_pos hc, q1, Option.bind_some, q2, Option.bind_some]
    have hl : acc.length + (xs.length + 1) ≤ 1000000 := hl
    have hx : x ∉ acc := fun hx => (List.nodup_append.mp hn).2.2 x hx x (by simp) rfl
    simp only [q3, q4, q5, Option.bind_some, kyOf]
    rw [if_pos (Nat.lt_of_lt_of_le (m := 1000000) (by rw [keysD_len]; omega) (by decide)), putD_keys x acc hx, dcL_keys hc xs (acc ++ [x]) (by simp; omega) (by simpa using hn) fun y hy => h y (by simp [hy])]
    simp
end Qd
namespace Qd
open PySem PySem.Spec L2
theorem isi_non_bool : isiD [.non, .ty "bool"] = some (.bl false) := id rfl
theorem isi_non_int : isiD [.non, .ty "int"] = some (.bl false) := id rfl
theorem isi_non_str : isiD [.non, .ty "str"] = some (.bl false) := id rfl
theorem isi_non_tuple : isiD [.non, .ty "tuple"] = some (.bl false) := id rfl
theorem isi_non_list : isiD [.non, .ty "list"] = some (.bl false) := id rfl
theorem isi_bl_bool (b : Bool) : isiD [(.bl b), .ty "bool"] = some (.bl true) := id rfl
theorem isi_bl_int (b : Bool) : isiD [(.bl b), .ty "int"] = some (.bl true) := id rfl
theorem isi_bl_str (b : Bool) : isiD [(.bl b), .ty "str"] = some (.bl false) := id rfl
theorem isi_bl_tuple (b : Bool) : isiD [(.bl b), .ty "tuple"] = some (.bl false) := id rfl
theorem isi_bl_list (b : Bool) : isiD [(.bl b), .ty "list"] = some (.bl false) := id rfl
theorem isi_int_bool (i : Int) : isiD [(.int i), .ty "bool"] = some (.bl false) := id rfl
theorem isi_int_int (i : Int) : isiD [(.int i), .ty "int"] = some (.bl true) := id rfl
theorem isi_int_str (i : Int) : isiD [(.int i), .ty "str"] = some (.bl false) := id rfl
theorem isi_int_tuple (i : Int) : isiD [(.int i), .ty "tuple"] = some (.bl false) := id rfl
theorem isi_int_list (i : Int) : isiD [(.int i), .ty "list"] = some (.bl false) := id rfl
theorem isi_str_bool (x : List Nat) : isiD [(.str x), .ty "bool"] = some (.bl false) := id rfl
theorem isi_str_int (x : List Nat) : isiD [(.str x), .ty "int"] = some (.bl false) := id rfl
theorem isi_str_str (x : List Nat) : isiD [(.str x), .ty "str"] = some (.bl true) := id rfl
theorem isi_str_tuple (x : List Nat) : isiD [(.str x), .ty "tuple"] = some (.bl false) := id rfl
theorem isi_str_list (x : List Nat) : isiD [(.str x), .ty "list"] = some (.bl false) := id rfl
theorem isi_tup_bool (ds : List D) : isiD [(.tup ds), .ty "bool"] = some (.bl false) := id rfl
theorem isi_tup_int (ds : List D) : isiD [(.tup ds), .ty "int"] = some (.bl false) := id rfl
theorem isi_tup_str (ds : List D) : isiD [(.tup ds), .ty "str"] = some (.bl false) := id rfl
theorem isi_tup_tuple (ds : List D) : isiD [(.tup ds), .ty "tuple"] = some (.bl true) := id rfl
theorem isi_tup_list (ds : List D) : isiD [(.tup ds), .ty "list"] = some (.bl false) := id rfl
theorem isi_lst_bool (ds : List D) : isiD [(.lst ds), .ty "bool"] = some (.bl false) := id rfl
theorem isi_lst_int (ds : List D) : isiD [(.lst ds), .ty "int"] = some (.bl false) := id rfl
theorem isi_lst_str (ds : List D) : isiD [(.lst ds), .ty "str"] = some (.bl false) := id rfl
theorem isi_lst_tuple (ds : List D) : isiD [(.lst ds), .ty "tuple"] = some (.bl false) := id rfl
theorem isi_lst_list (ds : List D) : isiD [(.lst ds), .ty "list"] = some (.bl true) := id rfl
theorem isN_non : isN .non .non = some (.bl true) := id rfl
theorem isN_bl (b : Bool) : isN (.bl b) .non = some (.bl false) := id rfl
theorem isN_int (i : Int) : isN (.int i) .non = some (.bl false) := id rfl
theorem isN_str (x : List Nat) : isN (.str x) .non = some (.bl false) := id rfl
theorem isN_tup (ds : List D) : isN (.tup ds) .non = some (.bl false) := id rfl
theorem isN_lst (ds : List D) : isN (.lst ds) .non = some (.bl false) := id rfl
theorem shp_b (b : Bool) : shp (.bl b) = true := by
  unfold shp SeqAt.shaped
  simp [toPy, PyData.canLay0, PyData.depth]
theorem eqD_b (a b : Bool) : eqD (.bl a) (.bl b) = some (.bl (decide (a = b))) := by
  rw [eqD_of (shp_b a) (shp_b b)]
  unfold eqB
  simp only [toPy, PyData.eqv]
  cases a <;> cases b <;> rfl
theorem neD_b (a b : Bool) : neD (.bl a) (.bl b) = some (.bl (!decide (a = b))) := neD_of (eqD_b a b)
theorem rng_map : ∀ (lo n : Nat), rng (lo : Int) n = (List.range' lo n).map fun (i : Nat) => D.int (i : Int)
  | lo, 0 => rfl
  | lo, n + 1 => by
    have := rng_map (lo + 1) n
    simp only [rng, List.range'_succ, List.map_cons]
    rw [show ((lo : Int) + 1) = ((lo + 1 : Nat) : Int) by omega, this]
theorem rng0_map (n : Nat) : rng 0 n = (List.range n).map fun (i : Nat) => D.int (i : Int) := by
  have := rng_map 0 n
  rw [List.range_eq_range']
  exact this
/-- data that _law_like finds like themselves -/
def Pl : Nat → D → Prop
  | 0, d => flat d = true
  | k + 1, d => flat d = true ∨ ∃ ds, (d = .lst ds ∨ d = .tup ds) ∧ ds.length < 1000 ∧ ∀ x ∈ ds, Pl k x
end Qd
namespace Qd
open PySem PySem.Spec L2
theorem spD_script {K : PySem.W.Frag} {H : Hp} {a : Addr} (ns : List Int) (hS : SqL K H a (ns.map V.int)) {g : FN} (hg : ∃ outs, g [.scr ns] = some (.ok false (.bl true) outs)) : spD K [.sh] g [.ref a] H (fun v _ => v = .bl true) fun _ _ _ => False := by
  obtain ⟨outs, hg⟩ := hg
  refine ⟨⟨fun _ => none, H, fun _ => 0⟩, H, [.scr ns], _, rfl, ⟨rfl, fun _ _ h => h, fun _ _ h => (by cases h), fun _ _ h => Or.inl h, fun _ _ h => h, fun i d h => ?_, fun i k d h hk => ?_, fun i j k l d e p hij h hk => ?_⟩, hg, fun v H' Hs' _ r => ?_⟩
  · match i, h with
    | 0, h =>
      cases h
      exact ⟨.ref a, rfl, a, rfl, hS⟩
    | i + 1, h => simp [mkEn] at h
  · match i, h with
    | 0, h =>
      cases h
      exact absurd rfl hk
    | i + 1, h => simp [mkEn] at h
  · match i, h with
    | 0, h =>
      cases h
      exact absurd rfl hk
    | i + 1, h => simp [mkEn] at h
  · have r : v = .bl true := by simpa [Rp] using r
    exact r
end Qd
namespace Qd
open PySem PySem.Spec L2
theorem startsD_eq (a b : List Nat) : startsD (.str a) [.str b] = some (.bl (b.isPrefixOf a)) := id rfl
theorem anyB_eq (bs : List Bool) : anyB [.lst (bs.map D.bl)] = some (.bl (bs.any id)) := by
  show (bls (bs.map D.bl)).map _ = _
  rw [bls_map]
  rfl
theorem sumD_eq (is : List Int) : sumD [.lst (is.map D.int)] = some (.int is.sum) := by
  show (intsD (is.map D.int)).map _ = _
  rw [intsD_map]
  rfl
theorem maxD1_eq (i : Int) (is : List Int) : maxD1 [.lst (.int i :: is.map D.int)] = some (.int (maxL i is)) := by
  show (intsD (is.map D.int)).map (fun bs => D.int (maxL i bs)) = _
  rw [intsD_map]
  rfl
theorem notInD_ls (x : List Nat) (xs : List (List Nat)) : notInD (.str x) (.lst (xs.map D.str)) = some (.bl (!decide (x ∈ xs))) := by
  unfold notInD
  rw [inD_ls]
  rfl
theorem notInD_keys (x : List Nat) (xs : List (List Nat)) : notInD (.str x) (.dic (keysD xs)) = some (.bl (!decide (x ∈ xs))) := by
  unfold notInD
  rw [inD_keys]
  rfl
theorem gsNil_eq (env : En) : gsNil env [] = some env := id rfl
def gsk (g : FGs) (r : List D) (e : En) : Option En := g e r
theorem gsCons_eq (f : FG) (g : FGs) (env : En) (d : D) (r : List D) : gsCons f g env (d :: r) = (f env d).bind (gsk g r) := id rfl
theorem gsk_eq (g : FGs) (r : List D) (e : En) : gsk g r e = g e r := id rfl
theorem gT2_eq (f : FGs) (env : En) (a b : D) : gT 2 f env (.tup [a, b]) = f env [a, b] := id rfl
theorem gT3_eq (f : FGs) (env : En) (a b c : D) : gT 3 f env (.tup [a, b, c]) = f env [a, b, c] := id rfl
def iz2 (o q : Ov) (env : En) : Option D → Option D → Option (List D × Bs × En)
  | some (.lst ds), some (.lst es) => some (zipD ds es, bOf o (.lst ds) ++ bOf q (.lst es), env)
  | _, _ => none
def iz1 (o : Ov) (q : Ov × En) : Option (List D × Bs × En) := iz2 o q.1 q.2 (fetch q.2 o) (fetch q.2 q.1)
def iz0 (fb : FO) (p : Ov × En) : Option (List D × Bs × En) := (fb p.2).bind (iz1 p.1)
theorem iZ_eq (fa fb : FO) (env : En) : iZ fa fb env = (fa env).bind (iz0 fb) := by
  unfold iZ
  cases fa env with
  | none => rfl
  | some p =>
    simp only [Option.bind_some, iz0]
    cases fb p.2 with
    | none => rfl
    | some q =>
      simp only [Option.bind_some, iz1, iz2]
      all_goals (split <;> simp_all)
theorem iz0_eq (fb : FO) (o : Ov) (e : En) : iz0 fb (o, e) = (fb e).bind (iz1 o) := id rfl
theorem iz1_eq (o q : Ov) (e : En) : iz1 o (q, e) = iz2 o q e (fetch e o) (fetch e q) := id rfl
theorem iz2_eq (o q : Ov) (e : En) (ds es : List D) : iz2 o q e (some (.lst ds)) (some (.lst es)) = some (zipD ds es, bOf o (.lst ds) ++ bOf q (.lst es), e) := id rfl
def pin1 (i : Nat) : Out → Option Out
  | .nx e => (unpin i e).map Out.nx
  | .ct e => (unpin i e).map Out.ct
  | .bk e => (unpin i e).map Out.bk
  | .rt b z e => (unpin i e).map (Out.rt b z)
def pin0 (i : Nat) (F : FS) (env : En) : Option (Option Sl) → Option Out
  | some (some (.ow, d)) => (F (env.set i (some (.pn, d)))).bind (pin1 i)
  | _ => F env
theorem sPin_eq (i : Nat) (F : FS) (env : En) : sPin i F env = pin0 i F env env[i]? := by
  unfold sPin pin0
  all_goals (split <;> rename_i h <;> (try simp_all))
  all_goals (first | rfl | congr 1)
theorem pin0_ow (i : Nat) (F : FS) (env : En) (d : D) : pin0 i F env (some (some (.ow, d))) = (F (env.set i (some (.pn, d)))).bind (pin1 i) := id rfl
theorem pin0_sh (i : Nat) (F : FS) (env : En) (d : D) : pin0 i F env (some (some (.sh, d))) = F env := id rfl
def unp (i : Nat) (e : En) : Option (Option Sl) → Option En
  | some (some (.pn, d)) => some (e.set i (some (.ow, d)))
  | _ => none
theorem unpin_eq (i : Nat) (e : En) : unpin i e = unp i e e[i]? := by
  unfold unpin unp
  all_goals (split <;> rename_i h <;> simp_all)
theorem unp_pn (i : Nat) (e : En) (d : D) : unp i e (some (some (.pn, d))) = some (e.set i (some (.ow, d))) := id rfl
theorem pin1_nx (i : Nat) (e : En) : pin1 i (.nx e) = (unpin i e).map Out.nx := id rfl
theorem pin1_rt (i : Nat) (b : Bool) (z : D) (e : En) : pin1 i (.rt b z e) = (unpin i e).map (Out.rt b z) := id rfl
theorem lcL_map {α : Type} {bs : Bs} {vs : List Nat} {pt : FG} {c f : FE} {e : En} (enc : α → D) (φ : α → D) (hc : chkB false e bs = true) (xs : List α) (hl : xs.length ≤ 1000000)
    (h : ∀ x ∈ xs, ∃ e1, pt e (enc x) = some e1 ∧ c e1 = some (.bl true, e1) ∧ f e1 = some (φ x, e1) ∧ wipeE e1 vs = e) : lcL bs vs pt c f (xs.map enc) e [] = some (xs.map φ, e) := by
  rw [lcL_filter enc (fun _ => true) φ hc xs [] (by simpa using hl) fun x hx => ?_, filter_true]
  · rfl
  · obtain ⟨e1, q1, q2, q3, q4⟩ := h x hx
    exact ⟨e1, q1, q2, fun _ => q3, q4⟩
theorem anyB_map {α : Type} (f : α → Bool) (xs : List α) : anyB [.lst (xs.map fun x => .bl (f x))] = some (.bl (xs.any f)) := by
  have := anyB_eq (xs.map f)
  rw [List.map_map] at this
  rw [show (xs.map fun x => D.bl (f x)) = xs.map (D.bl ∘ f) from rfl, this, List.any_map]
  rfl
theorem allB_map {α : Type} (f : α → Bool) (xs : List α) : allB [.lst (xs.map fun x => .bl (f x))] = some (.bl (xs.all f)) := by
  have := allB_eq (xs.map f)
  rw [List.map_map] at this
  rw [show (xs.map fun x => D.bl (f x)) = xs.map (D.bl ∘ f) from rfl, this, List.all_map]
  rfl
theorem sumD_map {α : Type} (f : α → Int) (xs : List α) : sumD [.lst (xs.map fun x => .int (f x))] = some (.int (xs.map f).sum) := by
  have := sumD_eq (xs.map f)
  rw [List.map_map] at this
  exact this
theorem maxD1_map {α : Type} (i : Int) (f : α → Int) (xs : List α) : maxD1 [.lst (.int i :: xs.map fun x => .int (f x))] = some (.int (maxL i (xs.map f))) := by
  have := maxD1_eq i (xs.map f)
  rw [List.map_map] at this
  exact this
theorem zipD_strs : ∀ xs ys : List (List Nat), zipD (xs.map D.str) (ys.map D.str) = (xs.zip ys).map fun p => .tup [.str p.1, .str p.2]
  | [], _ => rfl
  | _ :: _, [] => rfl
  | x :: xs, y :: ys => by
    simp only [List.map_cons, zipD, List.zip_cons_cons, zipD_strs xs ys]
theorem cut_from {α : Type} (xs : List α) (n : Nat) : cut xs (some (n : Int)) none = xs.drop n := by
  unfold cut
  rw [HT.sIx_none, HT.sIx_nat]
  by_cases h : n ≤ xs.length
  · rw [Nat.min_eq_left h, List.take_of_length_le (by simp)]
  · rw [List.drop_of_length_le (by omega), List.drop_of_length_le (by omega)]
    simp
theorem cut_from1 {α : Type} (xs : List α) : cut xs (some 1) none = xs.drop 1 := cut_from xs 1
theorem zip_tail_mem {α : Type} : ∀ {xs : List α}, xs.Nodup → ∀ p ∈ xs.zip (xs.drop 1), p.1 ∈ xs ∧ p.2 ∈ xs ∧ p.1 ≠ p.2
  | [], _, p, h => by simp at h
  | [x], _, p, h => by simp at h
  | x :: y :: xs, nd, p, h => by
    simp only [List.drop_succ_cons, List.drop_zero, List.zip_cons_cons, List.mem_cons] at h
    obtain ⟨n1, n2⟩ := List.nodup_cons.mp nd
    rcases h with rfl | h
    · exact ⟨by simp, by simp, fun e => n1 (by simp [show x = y from e])⟩
    · have ih := zip_tail_mem n2 p h
      exact ⟨List.mem_cons_of_mem _ ih.1, List.mem_cons_of_mem _ ih.2.1, ih.2.2⟩
end Qd
namespace Qd
open PySem PySem.Spec L2
mutual
theorem eqv_refl : ∀ d : PyData, PyData.canLay0 d = true → PyData.eqv d d = true
  | .none, _ => rfl
  | .bool b, _ => by simp [PyData.eqv]
  | .int i, _ => by simp [PyData.eqv]
  | .str x, _ => by simp [PyData.eqv]
  | .list xs, h => by
    simp only [PyData.canLay0] at h
    simp only [PyData.eqv]
    exact eqvAll_refl xs h
  | .tuple xs, h => by
    simp only [PyData.canLay0] at h
    simp only [PyData.eqv]
    exact eqvAll_refl xs h
  | .dict _, h => by simp [PyData.canLay0] at h
theorem eqvAll_refl : ∀ ds : List PyData, PyData.canLayAll0 ds = true → PyData.eqvAll ds ds = true
  | [], _ => rfl
  | d :: ds, h => by
    simp only [PyData.canLayAll0, Bool.and_eq_true] at h
    simp only [PyData.eqvAll, eqv_refl d h.1, eqvAll_refl ds h.2, Bool.and_self]
end
theorem shp_lay {d : D} (h : shp d = true) : PyData.canLay0 (toPy d) = true := SeqAt.canLay_of_shaped h
theorem eqD_self {d : D} (h : shp d = true) : eqD d d = some (.bl true) := by
  rw [eqD_of h h]
  unfold eqB
  rw [eqv_refl _ (shp_lay h)]
theorem neD_self {d : D} (h : shp d = true) : neD d d = some (.bl false) := neD_of (eqD_self h)
/-- data of at most k levels, whose texts are of Python's signs -/
def Ok0 : D → Prop
  | .non => True
  | .bl _ => True
  | .int _ => True
  | .str x => okS x = true
  | _ => False
def Okd : Nat → D → Prop
  | 0, d => Ok0 d
  | k + 1, d => Ok0 d ∨ ∃ ds, (d = .lst ds ∨ d = .tup ds) ∧ ∀ x ∈ ds, Okd k x
theorem okd0 {d : D} (h : Ok0 d) : PyData.canLay0 (toPy d) = true ∧ PyData.depth (toPy d) = 0 := by
  cases d <;> first | exact h.elim | skip
  · exact ⟨rfl, rfl⟩
  · exact ⟨rfl, rfl⟩
  · exact ⟨rfl, rfl⟩
  · exact ⟨h, rfl⟩
theorem all_depth {k : Nat} : ∀ {ds : List D}, (∀ x ∈ ds, PyData.canLay0 (toPy x) = true ∧ PyData.depth (toPy x) ≤ k) → PyData.canLayAll0 (toPys ds) = true ∧ PyData.depthAll (toPys ds) ≤ k
  | [], _ => ⟨rfl, Nat.zero_le _⟩
  | d :: ds, h => by
    have h1 := h d (by simp)
    have h2 := all_depth fun x hx => h x (List.mem_cons_of_mem d hx)
    simp only [toPys, PyData.canLayAll0, PyData.depthAll, h1.1, h2.1, Bool.and_self, true_and]
    have := h1.2
    have := h2.2
    omega
theorem Okd.lay : ∀ {k : Nat} {d : D}, Okd k d → PyData.canLay0 (toPy d) = true ∧ PyData.depth (toPy d) ≤ k
  | 0, d, h => ⟨(okd0 h).1, by rw [(okd0 h).2]; exact Nat.le_refl _⟩
  | k + 1, d, h => by
    rcases h with h | ⟨ds, h, ha⟩
    · exact ⟨(okd0 h).1, by rw [(okd0 h).2]; exact Nat.zero_le _⟩
    · have := all_depth fun x hx => Okd.lay (ha x hx)
      rcases h with rfl | rfl
      · simp only [toPy, PyData.canLay0, PyData.depth]
        exact ⟨this.1, by have := this.2; omega⟩
      · simp only [toPy, PyData.canLay0, PyData.depth]
        exact ⟨this.1, by have := this.2; omega⟩
theorem Okd.shp {k : Nat} {d : D} (h : Okd k d) (hk : k ≤ 64) : Qd.shp d = true := by
  unfold Qd.shp SeqAt.shaped
  rw [h.lay.1, Bool.true_and, decide_eq_true_eq]
  have := h.lay.2
  omega
theorem okd_strs {xs : List (List Nat)} (h : ∀ x ∈ xs, okS x = true) : Okd 1 (.lst (xs.map D.str)) := .inr ⟨_, .inl rfl, fun x hx => by
  obtain ⟨w, hw, rfl⟩ := List.mem_map.mp hx
  exact h w hw⟩
end Qd
namespace Qm
open Qd
abbrev Wd := List Nat
theorem Bin.snoc {w : Wd} {c : Nat} (h : Bin w) (hc : c = 48 ∨ c = 49) : Bin (w ++ [c]) := fun x hx => by
  rcases List.mem_append.mp hx with hx | hx
  · exact h x hx
  · rw [List.mem_singleton.mp hx]
    exact hc
theorem Bin.left {w v : Wd} (h : Bin (w ++ v)) : Bin w := fun x hx => h x (List.mem_append.mpr (.inl hx))
theorem Bin.nil : Bin [] := fun _ h => absurd h (by simp)
theorem Bin.pre {w v : Wd} (h : Bin w) (p : v <+: w) : Bin v := by
  obtain ⟨t, rfl⟩ := p
  exact Bin.left h
def Bi (s : Nat → Nat) : Prop := ∀ i, s i = 48 ∨ s i = 49
def pre (s : Nat → Nat) (n : Nat) : Wd := (List.range n).map s
theorem pre_len (s : Nat → Nat) (n : Nat) : (pre s n).length = n := by simp [pre]
theorem pre_succ (s : Nat → Nat) (n : Nat) : pre s (n + 1) = pre s n ++ [s n] := by simp [pre, List.range_succ]
theorem pre_le (s : Nat → Nat) (n : Nat) : ∀ k, pre s n <+: pre s (n + k)
  | 0 => List.prefix_refl _
  | k + 1 => (pre_le s n k).trans (by rw [← Nat.add_assoc, pre_succ]; exact List.prefix_append _ _)
def Pre (w : Wd) (s : Nat → Nat) : Prop := w = pre s w.length
theorem Pre.snoc {w : Wd} {c : Nat} {s : Nat → Nat} : Pre (w ++ [c]) s ↔ Pre w s ∧ c = s w.length := by
  unfold Pre
  rw [List.length_append, List.length_singleton, pre_succ]
  constructor
  · intro h
    have h2 := List.append_inj h (by rw [pre_len])
    exact ⟨h2.1, by simpa using h2.2⟩
  · rintro ⟨h, h2⟩
    rw [← h, ← h2]
theorem Pre.le {v w : Wd} {s : Nat → Nat} (h1 : Pre v s) (h2 : Pre w s) (hl : v.length ≤ w.length) : v <+: w := by
  rw [h1, h2]
  obtain ⟨k, hk⟩ := Nat.exists_eq_add_of_le hl
  rw [hk]
  exact pre_le s _ k
theorem Pre.of {v w : Wd} {s : Nat → Nat} (h : Pre w s) (p : v <+: w) : Pre v s := by
  obtain ⟨k, hk⟩ := Nat.exists_eq_add_of_le p.length_le
  have h2 : pre s v.length <+: w := by
    rw [h, hk]
    exact pre_le s _ k
  exact (List.prefix_of_prefix_length_le p h2 (by rw [pre_len]; exact Nat.le_refl _)).eq_of_length (by rw [pre_len])
/-- a row that begins with a head -/
def strm (w : Wd) (i : Nat) : Nat := w.getD i 48
theorem strm_bi {w : Wd} (h : Bin w) : Bi (strm w) := fun i => by
  unfold strm
  by_cases hi : i < w.length
  · rw [List.getD_eq_getElem?_getD, List.getElem?_eq_getElem hi]
    exact h _ (List.getElem_mem hi)
  · rw [List.getD_eq_getElem?_getD, List.getElem?_eq_none (by omega)]
    exact .inl rfl
theorem strm_pre (w : Wd) : Pre w (strm w) := by
  unfold Pre pre strm
  apply List.ext_getElem
  · simp
  · intro i h1 h2
    simp [List.getD_eq_getElem?_getD, List.getElem?_eq_getElem h1]
def Cov (S : List Wd) (s : Nat → Nat) : Prop := ∃ w ∈ S, Pre w s
def Anti (S : List Wd) : Prop := ∀ v ∈ S, ∀ w ∈ S, v <+: w → v = w
def Red (S : List Wd) : Prop := ∀ u, ¬ (u ++ [48] ∈ S ∧ u ++ [49] ∈ S)
def Full (S : List Wd) (w : Wd) : Prop := ∀ s, Bi s → Pre w s → Cov S s
theorem full_pre {S : List Wd} (hr : Red S) (L : Nat) (hL : ∀ w ∈ S, w.length ≤ L) : ∀ n (w : Wd), L ≤ w.length + n → Bin w → Full S w → ∃ v ∈ S, v <+: w
  | 0, w, hl, hb, hf => by
    obtain ⟨v, hv, hp⟩ := hf (strm w) (strm_bi hb) (strm_pre w)
    exact ⟨v, hv, hp.le (strm_pre w) (by have := hL v hv; omega)⟩
  | n + 1, w, hl, hb, hf => by
    obtain ⟨v, hv, hp⟩ := full_pre hr L hL n (w ++ [48]) (by simp; omega) (Bin.snoc hb (.inl rfl)) (fun s hs hp => hf s hs (Pre.snoc.mp hp).1)
    rcases List.prefix_concat_iff.mp hp with rfl | hp
    · obtain ⟨v2, hv2, hp2⟩ := full_pre hr L hL n (w ++ [49]) (by simp; omega) (Bin.snoc hb (.inr rfl)) (fun s hs hp => hf s hs (Pre.snoc.mp hp).1)
      rcases List.prefix_concat_iff.mp hp2 with rfl | hp2
      · exact absurd ⟨hv, hv2⟩ (hr w)
      · exact ⟨v2, hv2, hp2⟩
    · exact ⟨v, hv, hp⟩
theorem exists_bound : ∀ S : List Wd, ∃ L, ∀ w ∈ S, w.length ≤ L
  | [] => ⟨0, fun _ h => absurd h (by simp)⟩
  | w :: S => by
    obtain ⟨L, h⟩ := exists_bound S
    refine ⟨max L w.length, fun v hv => ?_⟩
    rcases List.mem_cons.mp hv with rfl | hv
    · omega
    · have := h v hv
      omega
theorem mem_full {S : List Wd} (hb : ∀ w ∈ S, Bin w) (ha : Anti S) (hr : Red S) (w : Wd) : w ∈ S ↔ Bin w ∧ Full S w ∧ ∀ v, v <+: w → Full S v → v = w := by
  obtain ⟨L, hL⟩ := exists_bound S
  constructor
  · refine fun h => ⟨hb w h, fun s _ hp => ⟨w, h, hp⟩, fun v hv hf => ?_⟩
    obtain ⟨u, hu, hp⟩ := full_pre hr L hL L v (by omega) (Bin.pre (hb w h) hv) hf
    have e := ha u hu w h (hp.trans hv)
    subst e
    exact (hp.eq_of_length_le hv.length_le).symm
  · rintro ⟨h1, h2, h3⟩
    obtain ⟨u, hu, hp⟩ := full_pre hr L hL L w (by omega) h1 h2
    have := h3 u hp fun s _ hq => ⟨u, hu, hq⟩
    rw [← this]
    exact hu
theorem uniq {S T : List Wd} (b1 : ∀ w ∈ S, Bin w) (b2 : ∀ w ∈ T, Bin w) (a1 : Anti S) (a2 : Anti T) (r1 : Red S) (r2 : Red T) (h : ∀ s, Bi s → (Cov S s ↔ Cov T s)) (w : Wd) : w ∈ S ↔ w ∈ T := by
  have hf : ∀ v, Full S v ↔ Full T v := fun v => ⟨fun f s hs hp => (h s hs).mp (f s hs hp), fun f s hs hp => (h s hs).mpr (f s hs hp)⟩
  rw [mem_full b1 a1 r1, mem_full b2 a2 r2]
  constructor
  · exact fun ⟨p, q, r⟩ => ⟨p, (hf w).mp q, fun v hv hq => r v hv ((hf v).mpr hq)⟩
  · exact fun ⟨p, q, r⟩ => ⟨p, (hf w).mpr q, fun v hv hq => r v hv ((hf v).mp hq)⟩
/-- heads that are apart, of at most n signs -/
structure Hd (n : Nat) (S : List Wd) : Prop where
  nd : S.Nodup
  bin : ∀ w ∈ S, Bin w
  anti : Anti S
  wl : ∀ w ∈ S, w.length ≤ n
theorem Hd.ok {n : Nat} {S : List Wd} (h : Hd n S) : ∀ x ∈ S, okS x = true := fun x hx => (h.bin x hx).ok
theorem Hd.of {n m : Nat} {S T : List Wd} (h : Hd n S) (hn : n ≤ m) (nd : T.Nodup) (hT : ∀ x ∈ T, x ∈ S) : Hd m T := ⟨nd, fun w hw => h.bin w (hT w hw), fun v hv w hw => h.anti v (hT v hv) w (hT w hw), fun w hw => Nat.le_trans (h.wl w (hT w hw)) hn⟩
theorem Hd.perm {n : Nat} {S T : List Wd} (h : Hd n S) (p : T.Perm S) : Hd n T := h.of (Nat.le_refl _) (p.nodup_iff.mpr h.nd) fun x hx => p.mem_iff.mp hx
theorem not_pre_snoc (u : Wd) (c : Nat) : ¬ (u ++ [c]) <+: u := fun h => by
  have := h.length_le
  simp at this
  omega
theorem pre_up {v u : Wd} {c : Nat} (h : v <+: u) : v <+: u ++ [c] := h.trans (List.prefix_append _ _)
/-- a word below another one goes on with a nought or a one -/
theorem pre_cases {u v : Wd} (hb : Bin v) (h : u <+: v) : v = u ∨ (u ++ [48]) <+: v ∨ (u ++ [49]) <+: v := by
  obtain ⟨t, rfl⟩ := h
  cases t with
  | nil => exact .inl (by simp)
  | cons c t =>
    have : c = 48 ∨ c = 49 := hb c (by simp)
    rcases this with rfl | rfl
    · exact .inr (.inl ⟨t, by simp⟩)
    · exact .inr (.inr ⟨t, by simp⟩)
/-- two heads joined -/
theorem Hd.join {n : Nat} {S T : List Wd} {u : Wd} (h : Hd n S) (h0 : u ++ [48] ∈ S) (h1 : u ++ [49] ∈ S) (nd : T.Nodup) (hT : ∀ x, x ∈ T ↔ x = u ∨ (x ∈ S ∧ x ≠ u ++ [48] ∧ x ≠ u ++ [49])) : Hd n T := by
  have hu : Bin u := Bin.left (h.bin _ h0)
  refine ⟨nd, fun w hw => ?_, fun v hv w hw hp => ?_, fun w hw => ?_⟩
  · rcases (hT w).mp hw with rfl | hw
    · exact hu
    · exact h.bin w hw.1
  · rcases (hT v).mp hv with rfl | hv
    · rcases (hT w).mp hw with rfl | hw
      · rfl
      · rcases pre_cases (h.bin w hw.1) hp with e | e | e
        · exact e.symm
        · exact absurd (h.anti _ h0 w hw.1 e).symm hw.2.1
        · exact absurd (h.anti _ h1 w hw.1 e).symm hw.2.2
    · rcases (hT w).mp hw with rfl | hw
      · exact absurd (h.anti v hv.1 _ h0 (pre_up hp)) hv.2.1
      · exact h.anti v hv.1 w hw.1 hp
  · rcases (hT w).mp hw with rfl | hw
    · have := h.wl _ h0
      simp at this
      omega
    · exact h.wl w hw.1
theorem cov_join {S T : List Wd} {u : Wd} (h0 : u ++ [48] ∈ S) (h1 : u ++ [49] ∈ S) (hT : ∀ x, x ∈ T ↔ x = u ∨ (x ∈ S ∧ x ≠ u ++ [48] ∧ x ≠ u ++ [49])) (s : Nat → Nat) (hs : Bi s) : Cov T s ↔ Cov S s := by
  constructor
  · rintro ⟨w, hw, hp⟩
    rcases (hT w).mp hw with rfl | hw
    · rcases hs w.length with e | e
      · exact ⟨_, h0, Pre.snoc.mpr ⟨hp, e.symm⟩⟩
      · exact ⟨_, h1, Pre.snoc.mpr ⟨hp, e.symm⟩⟩
    · exact ⟨w, hw.1, hp⟩
  · rintro ⟨w, hw, hp⟩
    by_cases e0 : w = u ++ [48]
    · subst e0
      exact ⟨u, (hT u).mpr (.inl rfl), (Pre.snoc.mp hp).1⟩
    · by_cases e1 : w = u ++ [49]
      · subst e1
        exact ⟨u, (hT u).mpr (.inl rfl), (Pre.snoc.mp hp).1⟩
      · exact ⟨w, (hT w).mpr (.inr ⟨hw, e0, e1⟩), hp⟩
/-- a head parted -/
theorem Hd.part {n : Nat} {S T : List Wd} {u : Wd} (h : Hd n S) (hu : u ∈ S) (nd : T.Nodup) (hT : ∀ x, x ∈ T ↔ x = u ++ [48] ∨ x = u ++ [49] ∨ (x ∈ S ∧ x ≠ u)) : Hd (n + 1) T := by
  have hb := h.bin u hu
  have key : ∀ c, ∀ w ∈ S, w ≠ u → ¬ w <+: u ++ [c] ∧ ¬ (u ++ [c]) <+: w := fun c w hw hn => by
    constructor
    · intro hp
      rcases List.prefix_concat_iff.mp hp with rfl | hp
      · exact hn (h.anti u hu _ hw (List.prefix_append _ _)).symm
      · exact hn (h.anti w hw u hu hp)
    · intro hp
      exact hn (h.anti u hu w hw ((List.prefix_append u [c]).trans hp)).symm
  have ne : ∀ a b : Nat, (u ++ [a]) <+: (u ++ [b]) → u ++ [a] = u ++ [b] := fun a b hp => hp.eq_of_length (by simp)
  refine ⟨nd, fun w hw => ?_, fun v hv w hw hp => ?_, fun w hw => ?_⟩
  · rcases (hT w).mp hw with rfl | rfl | hw
    · exact Bin.snoc hb (.inl rfl)
    · exact Bin.snoc hb (.inr rfl)
    · exact h.bin w hw.1
  · rcases (hT v).mp hv with rfl | rfl | hv <;> rcases (hT w).mp hw with rfl | rfl | hw
    · rfl
    · exact ne _ _ hp
    · exact absurd hp (key _ w hw.1 hw.2).2
    · exact ne _ _ hp
    · rfl
    · exact absurd hp (key _ w hw.1 hw.2).2
    · exact absurd hp (key _ v hv.1 hv.2).1
    · exact absurd hp (key _ v hv.1 hv.2).1
    · exact h.anti v hv.1 w hw.1 hp
  · rcases (hT w).mp hw with rfl | rfl | hw
    · have := h.wl u hu
      simp
      omega
    · have := h.wl u hu
      simp
      omega
    · exact Nat.le_succ_of_le (h.wl w hw.1)
theorem cov_part {S T : List Wd} {u : Wd} (hu : u ∈ S) (hT : ∀ x, x ∈ T ↔ x = u ++ [48] ∨ x = u ++ [49] ∨ (x ∈ S ∧ x ≠ u)) (s : Nat → Nat) (hs : Bi s) (h : Cov S s) : Cov T s := by
  obtain ⟨w, hw, hp⟩ := h
  by_cases e : w = u
  · subst e
    rcases hs w.length with e | e
    · exact ⟨_, (hT _).mpr (.inl rfl), Pre.snoc.mpr ⟨hp, e.symm⟩⟩
    · exact ⟨_, (hT _).mpr (.inr (.inl rfl)), Pre.snoc.mpr ⟨hp, e.symm⟩⟩
  · exact ⟨w, (hT w).mpr (.inr (.inr ⟨hw, e⟩)), hp⟩
/-- what comes of heads by joining -/
structure Jn (n : Nat) (A S : List Wd) : Prop where
  hd : Hd n S
  cov : ∀ s, Bi s → (Cov S s ↔ Cov A s)
  len : S.length ≤ A.length
theorem Jn.refl {n : Nat} {A S : List Wd} (h : Hd n A) (p : S.Perm A) : Jn n A S := ⟨h.perm p, fun s _ => ⟨fun ⟨w, hw, hp⟩ => ⟨w, p.mem_iff.mp hw, hp⟩, fun ⟨w, hw, hp⟩ => ⟨w, p.mem_iff.mpr hw, hp⟩⟩, by rw [p.length_eq]; exact Nat.le_refl _⟩
theorem Jn.fin {n m : Nat} {A B S T : List Wd} (h : Jn n A S) (h2 : Jn m B T) (p : A.Perm B) (r1 : Red S) (r2 : Red T) : sortS S = sortS T :=
  sortS_ext h.hd.nd h2.hd.nd (uniq h.hd.bin h2.hd.bin h.hd.anti h2.hd.anti r1 r2 fun s hs => (h.cov s hs).trans (Iff.trans ⟨fun ⟨w, hw, hp⟩ => ⟨w, p.mem_iff.mp hw, hp⟩, fun ⟨w, hw, hp⟩ => ⟨w, p.mem_iff.mpr hw, hp⟩⟩ (h2.cov s hs).symm))
/-- a list that has all but two and one more is shorter by one -/
theorem len_join {S T : List Wd} {u : Wd} (nS : S.Nodup) (nT : T.Nodup) (h0 : u ++ [48] ∈ S) (h1 : u ++ [49] ∈ S) (hu : u ∉ S) (hT : ∀ x, x ∈ T ↔ x = u ∨ (x ∈ S ∧ x ≠ u ++ [48] ∧ x ≠ u ++ [49])) : T.length + 1 = S.length := by
  have ne : u ++ [48] ≠ u ++ [49] := by simp
  have nd2 : ((u ++ [48]) :: (u ++ [49]) :: T).Nodup := by
    refine List.nodup_cons.mpr ⟨?_, List.nodup_cons.mpr ⟨?_, nT⟩⟩
    · rw [List.mem_cons]
      rintro (e | e)
      · exact ne e
      · rcases (hT _).mp e with e | e
        · simp at e
        · exact e.2.1 rfl
    · intro e
      rcases (hT _).mp e with e | e
      · simp at e
      · exact e.2.2 rfl
  have nd3 : (u :: S).Nodup := List.nodup_cons.mpr ⟨hu, nS⟩
  have pm := perm_of_mem nd2 nd3 (fun x => by
    simp only [List.mem_cons]
    rw [hT x]
    constructor
    · rintro (rfl | rfl | rfl | h)
      · exact .inr h0
      · exact .inr h1
      · exact .inl rfl
      · exact .inr h.1
    · rintro (rfl | h)
      · exact .inr (.inr (.inl rfl))
      · by_cases e0 : x = u ++ [48]
        · exact .inl e0
        · by_cases e1 : x = u ++ [49]
          · exact .inr (.inl e1)
          · exact .inr (.inr (.inr ⟨h, e0, e1⟩)))
  have := pm.length_eq
  simp at this
  omega
theorem Hd.not_up {n : Nat} {S : List Wd} {u : Wd} {c : Nat} (h : Hd n S) (h0 : u ++ [c] ∈ S) : u ∉ S := fun hu => by
  have := h.anti u hu _ h0 (List.prefix_append _ _)
  simp at this
theorem Jn.join {n : Nat} {A S T : List Wd} {u : Wd} (h : Jn n A S) (h0 : u ++ [48] ∈ S) (h1 : u ++ [49] ∈ S) (nd : T.Nodup) (hT : ∀ x, x ∈ T ↔ x = u ∨ (x ∈ S ∧ x ≠ u ++ [48] ∧ x ≠ u ++ [49])) : Jn n A T ∧ T.length + 1 = S.length :=
  have e := len_join h.hd.nd nd h0 h1 (h.hd.not_up h0) hT
  ⟨⟨h.hd.join h0 h1 nd hT, fun s hs => (cov_join h0 h1 hT s hs).trans (h.cov s hs), by have := h.len; omega⟩, e⟩
end Qm
namespace Qm
open Qd
structure Ct (n : Nat) (S : List Wd) : Prop where
  hd : Hd n S
  cov : ∀ s, Bi s → Cov S s
theorem Cov.perm {S T : List Wd} (p : T.Perm S) {s : Nat → Nat} (h : Cov S s) : Cov T s := let ⟨w, hw, hp⟩ := h; ⟨w, p.mem_iff.mpr hw, hp⟩
theorem Ct.perm {n : Nat} {S T : List Wd} (h : Ct n S) (p : T.Perm S) : Ct n T := ⟨h.hd.perm p, fun s hs => (h.cov s hs).perm p⟩
def has (A : List Wd) (x : Wd) : Bool := A.any fun u => u.isPrefixOf x
def hasS (A : List Wd) (x : Wd) : Bool := A.any fun u => u.isPrefixOf x && !decide (x = u)
theorem has_iff {A : List Wd} {x : Wd} : has A x = true ↔ ∃ u ∈ A, u <+: x := by
  unfold has
  rw [List.any_eq_true]
  simp only [List.isPrefixOf_iff_prefix]
theorem hasS_iff {A : List Wd} {x : Wd} : hasS A x = true ↔ ∃ u ∈ A, u <+: x ∧ x ≠ u := by
  unfold hasS
  rw [List.any_eq_true]
  simp only [Bool.and_eq_true, List.isPrefixOf_iff_prefix, Bool.not_eq_true', decide_eq_false_iff_not, ne_eq]
def comm (A B : List Wd) : List Wd := A.filter (has B) ++ B.filter (hasS A)
theorem comm_mem {A B : List Wd} (x : Wd) : x ∈ comm A B ↔ (x ∈ A ∧ ∃ u ∈ B, u <+: x) ∨ (x ∈ B ∧ ∃ u ∈ A, u <+: x) := by
  unfold comm
  rw [List.mem_append, List.mem_filter, List.mem_filter, has_iff, hasS_iff]
  constructor
  · rintro (h | ⟨h1, u, hu, hp, _⟩)
    · exact .inl h
    · exact .inr ⟨h1, u, hu, hp⟩
  · rintro (h | ⟨h1, u, hu, hp⟩)
    · exact .inl h
    · by_cases e : x = u
      · subst e
        exact .inl ⟨hu, x, h1, List.prefix_refl _⟩
      · exact .inr ⟨h1, u, hu, hp, e⟩
theorem comm_nodup {n m : Nat} {A B : List Wd} (hA : Hd n A) (hB : Hd m B) : (comm A B).Nodup := by
  refine List.nodup_append.mpr ⟨hA.nd.filter _, hB.nd.filter _, fun a ha b hb e => ?_⟩
  subst e
  obtain ⟨u, hu, hp, hn⟩ := hasS_iff.mp (List.mem_filter.mp hb).2
  exact hn (hA.anti u hu a (List.mem_filter.mp ha).1 hp).symm
theorem comm_hd {n m : Nat} {A B : List Wd} (hA : Hd n A) (hB : Hd m B) : Hd (max n m) (comm A B) := by
  have cross : ∀ {A B : List Wd}, Anti B → ∀ v ∈ A, ∀ w ∈ B, (∃ u ∈ B, u <+: v) → v <+: w → v = w := fun aB v _ w hw ⟨u, hu, hp⟩ hq => by
    have e := aB u hu w hw (hp.trans hq)
    subst e
    exact (hp.eq_of_length_le hq.length_le).symm
  refine ⟨comm_nodup hA hB, fun w hw => ?_, fun v hv w hw hp => ?_, fun w hw => ?_⟩
  · rcases (comm_mem w).mp hw with h | h
    · exact hA.bin w h.1
    · exact hB.bin w h.1
  · rcases (comm_mem v).mp hv with h | h <;> rcases (comm_mem w).mp hw with g | g
    · exact hA.anti v h.1 w g.1 hp
    · exact cross hB.anti v h.1 w g.1 h.2 hp
    · exact cross hA.anti v h.1 w g.1 h.2 hp
    · exact hB.anti v h.1 w g.1 hp
  · rcases (comm_mem w).mp hw with h | h
    · have := hA.wl w h.1
      omega
    · have := hB.wl w h.1
      omega
theorem comm_ct {n m : Nat} {A B : List Wd} (hA : Ct n A) (hB : Ct m B) : Ct (max n m) (comm A B) := by
  refine ⟨comm_hd hA.hd hB.hd, fun s hs => ?_⟩
  obtain ⟨a, ha, pa⟩ := hA.cov s hs
  obtain ⟨b, hb, pb⟩ := hB.cov s hs
  rcases Nat.le_total b.length a.length with h | h
  · exact ⟨a, (comm_mem a).mpr (.inl ⟨ha, b, hb, pb.le pa h⟩), pa⟩
  · exact ⟨b, (comm_mem b).mpr (.inr ⟨hb, a, ha, pa.le pb h⟩), pb⟩
theorem comm_sym {n m : Nat} {A B : List Wd} (hA : Hd n A) (hB : Hd m B) : sortS (comm A B) = sortS (comm B A) := sortS_ext (comm_nodup hA hB) (comm_nodup hB hA) fun x => by
  rw [comm_mem, comm_mem]
  exact Or.comm
theorem comm_self {n : Nat} {A : List Wd} (hA : Hd n A) : sortS (comm A A) = sortS A := sortS_ext (comm_nodup hA hA) hA.nd fun x => by
  rw [comm_mem]
  constructor
  · rintro (h | h) <;> exact h.1
  · exact fun h => .inl ⟨h, x, h, List.prefix_refl _⟩
theorem comm_perm {A B A' B' : List Wd} {n m : Nat} (hA : Hd n A) (hB : Hd m B) (p : A'.Perm A) (q : B'.Perm B) : sortS (comm A' B') = sortS (comm A B) := sortS_ext (comm_nodup (hA.perm p) (hB.perm q)) (comm_nodup hA hB) fun x => by
  rw [comm_mem, comm_mem, p.mem_iff, q.mem_iff]
  simp only [p.mem_iff, q.mem_iff]
def sumN (f : Wd → Nat) : List Wd → Nat
  | [] => 0
  | w :: S => f w + sumN f S
theorem sumN_add {f g h : Wd → Nat} : ∀ {S : List Wd}, (∀ w ∈ S, f w = g w + h w) → sumN f S = sumN g S + sumN h S
  | [], _ => rfl
  | w :: S, e => by
    have ih := sumN_add (S := S) fun v hv => e v (by simp [hv])
    have e1 := e w (by simp)
    simp only [sumN]
    omega
theorem sumN_zero {f : Wd → Nat} : ∀ {S : List Wd}, (∀ w ∈ S, f w = 0) → sumN f S = 0
  | [], _ => rfl
  | w :: S, e => by
    have ih := sumN_zero (S := S) fun v hv => e v (by simp [hv])
    have e1 := e w (by simp)
    simp only [sumN]
    omega
theorem sumN_one {f : Wd → Nat} {u : Wd} : ∀ {S : List Wd}, S.Nodup → u ∈ S → (∀ w ∈ S, w ≠ u → f w = 0) → sumN f S = f u
  | [], _, h, _ => absurd h (by simp)
  | w :: S, nd, h, e => by
    obtain ⟨n1, n2⟩ := List.nodup_cons.mp nd
    simp only [sumN]
    by_cases hw : w = u
    · subst hw
      rw [sumN_zero fun v hv => e v (by simp [hv]) fun z => n1 (z ▸ hv)]
      omega
    · rcases List.mem_cons.mp h with h | h
      · exact absurd h.symm hw
      · rw [e w (by simp) hw, sumN_one n2 h fun v hv => e v (by simp [hv])]
        omega
theorem sumN_congr {f g : Wd → Nat} : ∀ {S : List Wd}, (∀ w ∈ S, f w = g w) → sumN f S = sumN g S
  | [], _ => rfl
  | w :: S, e => by
    simp only [sumN]
    rw [e w (by simp), sumN_congr fun v hv => e v (by simp [hv])]
def under (L : Nat) (u w : Wd) : Nat := if u.isPrefixOf w = true then 2 ^ (L - w.length) else 0
theorem under_pos {L : Nat} {u w : Wd} (h : u <+: w) : under L u w = 2 ^ (L - w.length) := if_pos (List.isPrefixOf_iff_prefix.mpr h)
theorem under_neg {L : Nat} {u w : Wd} (h : ¬ u <+: w) : under L u w = 0 := if_neg fun z => h (List.isPrefixOf_iff_prefix.mp z)
theorem kraft_at {n : Nat} {S : List Wd} (h : Ct n S) (L : Nat) (hL : ∀ w ∈ S, w.length ≤ L) : ∀ k (u : Wd), L ≤ u.length + k → Bin u → (∀ w ∈ S, w <+: u → w = u) → sumN (under L u) S = 2 ^ (L - u.length) := by
  intro k
  induction k with
  | zero =>
    intro u hk hb hp
    obtain ⟨w, hw, hq⟩ := h.cov (strm u) (strm_bi hb)
    have hpw : w <+: u := hq.le (strm_pre u) (by have := hL w hw; omega)
    have e := hp w hw hpw
    subst e
    rw [sumN_one h.hd.nd hw fun v hv hne => under_neg fun z => hne (h.hd.anti w hw v hv z).symm, under_pos (List.prefix_refl _)]
  | succ k ih =>
    intro u hk hb hp
    by_cases hu : u ∈ S
    · rw [sumN_one h.hd.nd hu fun v hv hne => under_neg fun z => hne (h.hd.anti u hu v hv z).symm, under_pos (List.prefix_refl _)]
    · have hlt : u.length < L := by
        rcases Nat.lt_or_ge u.length L with h1 | h1
        · exact h1
        · exfalso
          obtain ⟨w, hw, hq⟩ := h.cov (strm u) (strm_bi hb)
          have hpw : w <+: u := hq.le (strm_pre u) (by have := hL w hw; omega)
          exact hu (hp w hw hpw ▸ hw)
      have key : ∀ c, (c = 48 ∨ c = 49) → sumN (under L (u ++ [c])) S = 2 ^ (L - (u.length + 1)) := fun c hc => by
        have := ih (u ++ [c]) (by simp; omega) (Bin.snoc hb hc) fun w hw hq => by
          rcases List.prefix_concat_iff.mp hq with e | e
          · exact e
          · exact absurd (hp w hw e ▸ hw) hu
        rw [this]
        simp
      rw [sumN_add (g := under L (u ++ [48])) (h := under L (u ++ [49])) fun w hw => ?_, key 48 (.inl rfl), key 49 (.inr rfl)]
      · have : L - u.length = (L - (u.length + 1)) + 1 := by omega
        rw [this, Nat.pow_succ]
        omega
      · by_cases hq : u <+: w
        · have no : ∀ a b : Nat, a ≠ b → (u ++ [a]) <+: w → ¬ (u ++ [b]) <+: w := fun a b hab h1 h2 => by
            have := List.prefix_of_prefix_length_le h1 h2 (by simp)
            have := this.eq_of_length (by simp)
            simp at this
            exact hab this
          rcases pre_cases (h.hd.bin w hw) hq with e | e | e
          · exact absurd (e ▸ hw) hu
          · rw [under_pos hq, under_pos e, under_neg (no 48 49 (by decide) e), Nat.add_zero]
          · rw [under_pos hq, under_pos e, under_neg (no 49 48 (by decide) e)]
            omega
        · rw [under_neg hq, under_neg fun z => hq ((List.prefix_append u [48]).trans z), under_neg fun z => hq ((List.prefix_append u [49]).trans z)]
theorem kraft {n : Nat} {S : List Wd} (h : Ct n S) (L : Nat) (hL : ∀ w ∈ S, w.length ≤ L) : sumN (fun w => 2 ^ (L - w.length)) S = 2 ^ L := by
  have := kraft_at h L hL L [] (by simp) Bin.nil fun w hw hp => by simpa using hp
  rw [sumN_congr fun w _ => under_pos (List.nil_prefix)] at this
  simpa using this
end Qm
namespace Lw
open PySem PySem.Spec L2 Qd Qm
def Sh (x : Option Sl) : Prop := x = none ∨ ∃ d, x = some (.sh, d)
theorem Sh.okk {x : Option Sl} (h : Sh x) : Qd.okk (some x) = true := by
  rcases h with rfl | ⟨d, rfl⟩ <;> rfl
theorem Sh.no : Sh none := .inl rfl
theorem Sh.sh (d : D) : Sh (some (.sh, d)) := .inr ⟨d, rfl⟩
theorem eraseIdx_perm {α : Type} : ∀ (xs : List α) (i : Nat) (w : α), xs[i]? = some w → (w :: xs.eraseIdx i).Perm xs
  | [], _, _, h => by simp at h
  | x :: xs, 0, w, h => by
    simp at h
    subst h
    exact List.Perm.refl _
  | x :: xs, i + 1, w, h => by
    simp at h
    simp only [List.eraseIdx_cons_succ]
    exact (List.Perm.swap x w _).trans ((eraseIdx_perm xs i w h).cons x)
theorem map_eraseIdx {α β : Type} (f : α → β) : ∀ (xs : List α) (n : Nat), (xs.map f).eraseIdx n = (xs.eraseIdx n).map f
  | [], _ => rfl
  | _ :: _, 0 => rfl
  | x :: xs, n + 1 => by simp [map_eraseIdx f xs n]
theorem minD1_ints (i : Int) (is : List Int) : ∃ m, minD1 [.lst ((i :: is).map D.int)] = some (.int m) ∧ m ∈ i :: is := by
  refine ⟨minL i is, ?_, ?_⟩
  · show (intsD (is.map D.int)).map (fun bs => D.int (minL i bs)) = _
    rw [intsD_map]
    rfl
  · rcases (minL_spec i is).1 with h | h
    · rw [h]
      simp
    · exact List.mem_cons.mpr (.inr h)
theorem indexD_ints (is : List Int) (m : Int) (h : m ∈ is) : ∃ j : Nat, indexD (.lst (is.map D.int)) [.int m] = some (.int j) ∧ j < is.length := by
  have e : indexD (.lst (is.map D.int)) [.int m] = (((is.map D.int).findIdx? fun e => eqB e (.int m)).map fun j => .int (j : Nat)) := by
    show (if flat (.int m) && (is.map D.int).all flat then _ else _) = _
    rw [if_pos (by rw [flats_i]; rfl)]
  rw [e]
  have f : ((is.map D.int).findIdx? fun e => eqB e (.int m)).isSome = true := by
    rw [List.findIdx?_isSome, List.any_eq_true]
    exact ⟨.int m, List.mem_map.mpr ⟨m, h, rfl⟩, by rw [eqB_i]; simp⟩
  obtain ⟨j, hj⟩ := Option.isSome_iff_exists.mp f
  rw [hj]
  refine ⟨j, rfl, ?_⟩
  have := (List.findIdx?_eq_some_iff_getElem.mp hj).1
  simpa using this
/-- what a draw does: some number below the given one, and another box -/
theorem rng_len (lo : Int) : ∀ n, (rng lo n).length = n
  | 0 => rfl
  | n + 1 => by simp [rng, rng_len (lo + 1) n]
theorem get_str {xs : List Wd} {n : Nat} (h : n < xs.length) : (xs.map D.str)[n]? = some (.str xs[n]) := by
  simp [List.getElem?_eq_getElem h]
theorem last_iff (z : Wd) (c : Nat) : z.drop (z.length - 1) = [c] ↔ z = z.dropLast ++ [c] := by
  rcases List.eq_nil_or_concat z with rfl | ⟨u, d, rfl⟩
  · simp
  · simp
theorem snoc_cases {x : Wd} (hb : Bin x) (hn : x ≠ []) : x = x.dropLast ++ [48] ∨ x = x.dropLast ++ [49] := by
  rcases List.eq_nil_or_concat x with rfl | ⟨u, d, rfl⟩
  · exact absurd rfl hn
  · have : d = 48 ∨ d = 49 := hb d (by simp)
    rcases this with rfl | rfl <;> simp
/-- the heads that joining leaves, and the joined one -/
theorem perm_map {α β : Type} (f : α → β) {zs l : List β} (p : zs.Perm l) : ∀ ys : List α, l = ys.map f → ∃ ws : List α, zs = ws.map f ∧ ws.Perm ys := by
  induction p with
  | nil =>
    intro ys h
    have : ys = [] := by simpa using h.symm
    subst this
    exact ⟨[], rfl, List.Perm.refl _⟩
  | cons x p ih =>
    intro ys h
    cases ys with
    | nil => cases h
    | cons y ys =>
      simp only [List.map_cons, List.cons.injEq] at h
      obtain ⟨ws, h1, h2⟩ := ih ys h.2
      exact ⟨y :: ws, by simp [h.1, h1], h2.cons y⟩
  | swap x y l =>
    intro ys h
    match ys, h with
    | a :: b :: ys, h =>
      simp only [List.map_cons, List.cons.injEq] at h
      exact ⟨b :: a :: ys, by simp [h.1, h.2.1, h.2.2], List.Perm.swap a b ys⟩
  | trans p q ih1 ih2 =>
    intro ys h
    obtain ⟨ws, h1, h2⟩ := ih2 ys h
    obtain ⟨vs, h3, h4⟩ := ih1 ws h1
    exact ⟨vs, h3, h4.trans h2⟩
def ShO (x : Option Sl) : Prop := Sh x ∨ ∃ d, x = some (.ow, d)
theorem ShO.okk {x : Option Sl} (h : ShO x) : Qd.okk (some x) = true := by
  rcases h with h | ⟨d, rfl⟩
  · exact h.okk
  · rfl
theorem pl_strs (xs : List Wd) (h : xs.length < 1000) : Pl 1 (.lst (xs.map D.str)) := .inr ⟨_, .inl rfl, by simpa using h, fun x hx => by
  obtain ⟨w, _, rfl⟩ := List.mem_map.mp hx
  rfl⟩
end Lw
namespace Qd
open PySem PySem.Spec L2
abbrev sv (d : D) : Option Sl := some (.sh, d)
abbrev ov (d : D) : Option Sl := some (.ow, d)
abbrev pv (d : D) : Option Sl := some (.pn, d)
theorem W.fnK {ks : List Kd} {o : Option Out} {Q : Res → Prop} (h : W o fun a => W (fn1 ks (some a)) Q) : W (fn1 ks o) Q := W.fn h fun _ z => z
theorem W.bindK {α β : Type} {o : Option α} {f : α → Option β} {R : β → Prop} (h : W o fun a => W (f a) R) : W (o.bind f) R := W.bind h fun _ z => z
theorem W.forK {β : Type} {bs : Bs} {pt : FG} {body : FS} {k : Out → Option β} {Q : β → Prop} {items : List D} {e : En} (I : List D → En → Prop) (hi : I items e) (h0 : ∀ e, I [] e → chkB true e bs = true ∧ W (k (.nx e)) Q)
    (h1 : ∀ d ds e, I (d :: ds) e → chkB true e bs = true ∧ ∃ e1, pt e d = some e1 ∧ W (body e1) (Aft (I ds) fun o => W (k o) Q)) : W ((Qd.forL bs pt body items e).bind k) Q :=
  W.bindK (W.forL I (fun e h => h0 e h) h1 items e hi)
theorem W.whK {β : Type} {c : FE} {body : FS} {k : Out → Option β} {Q : β → Prop} {f : Nat} {e : En} (I : Nat → En → Prop) (n : Nat) (hf : n < f) (hi : I n e)
    (h : ∀ n e, I n e → ∃ b e1, c e = some (.bl b, e1) ∧ if b = true then W (body e1) (Aft (fun e2 => ∃ m, m < n ∧ I m e2) fun o => W (k o) Q) else W (k (.nx e1)) Q) : W ((Qd.whL c body f e).bind k) Q :=
  W.bindK (W.whL I h f n e hf hi)
theorem W.lcK {β : Type} {bs : Bs} {vs : List Nat} {pt : FG} {c f : FE} {k : D × En → Option β} {Q : β → Prop} {items : List D} {e e0 : En} {acc : List D} (J : List D → En → List D → Prop) (hi : J items e acc) (h0 : ∀ e acc, J [] e acc → chkB false e bs = true ∧ W (k (.lst acc, rest e0 e vs)) Q)
    (h1 : ∀ d ds e acc, J (d :: ds) e acc → chkB false e bs = true ∧ ∃ e1 b e2, pt e d = some e1 ∧ c e1 = some (.bl b, e2) ∧ if b = true then ∃ z e3, f e2 = some (z, e3) ∧ acc.length < 1000000 ∧ J ds (wipeE e3 vs) (acc ++ [z]) else J ds (wipeE e2 vs) acc) : W ((Qd.lc2 vs e0 (Qd.lcL bs vs pt c f items e acc)).bind k) Q :=
  W.bindK (W.lc2 (P := fun p => chkB false p.2 bs = true ∧ W (k (.lst p.1, rest e0 p.2 vs)) Q) (W.lcL J (fun e acc h => ⟨(h0 e acc h).1, h0 e acc h⟩) h1 items e acc hi) fun ds e h => h.2)
theorem W.dcK {β : Type} {bs : Bs} {vs : List Nat} {pt : FG} {c fk fv : FE} {k : D × En → Option β} {Q : β → Prop} {items : List D} {e e0 : En} {acc : List (Ky × D)} (J : List D → En → List (Ky × D) → Prop) (hi : J items e acc) (h0 : ∀ e acc, J [] e acc → chkB false e bs = true ∧ W (k (.dic acc, rest e0 e vs)) Q)
    (h1 : ∀ d ds e acc, J (d :: ds) e acc → chkB false e bs = true ∧ ∃ e1 b e2, pt e d = some e1 ∧ c e1 = some (.bl b, e2) ∧ if b = true then ∃ k z w e3 e4, fk e2 = some (k, e3) ∧ fv e3 = some (w, e4) ∧ kyOf k = some z ∧ acc.length < 1000000 ∧ J ds (wipeE e4 vs) (putD acc z w) else J ds (wipeE e2 vs) acc) : W ((Qd.dc2 vs e0 (Qd.dcL bs vs pt c fk fv items e acc)).bind k) Q :=
  W.bindK (W.dc2 (P := fun p => chkB false p.2 bs = true ∧ W (k (.dic p.1, rest e0 p.2 vs)) Q) (W.dcL J (fun e acc h => ⟨(h0 e acc h).1, h0 e acc h⟩) h1 items e acc hi) fun ds e h => h.2)
theorem W.eq {α : Type} {o : Option α} {a : α} (h : W o fun r => r = a) : o = some a := by
  obtain ⟨r, e, rfl⟩ := h
  exact e
theorem W.of {α : Type} {o : Option α} {a : α} {Q : α → Prop} (e : o = some a) (h : Q a) : W o Q := ⟨a, e, h⟩
theorem Aft.nx {I : En → Prop} {Q : Out → Prop} {e : En} (h : I e) : Aft I Q (.nx e) := h
theorem Aft.ct {I : En → Prop} {Q : Out → Prop} {e : En} (h : I e) : Aft I Q (.ct e) := h
theorem Aft.bk {I : En → Prop} {Q : Out → Prop} {e : En} (h : Q (.nx e)) : Aft I Q (.bk e) := h
theorem Aft.rt {I : En → Prop} {Q : Out → Prop} {b : Bool} {z : D} {e : En} (h : Q (.rt b z e)) : Aft I Q (.rt b z e) := h
end Qd
namespace Qd
open PySem PySem.Spec L2
theorem Kc.mono {P : Program} {w : World} {K : PySem.W.Frag} {mg : Str → Option Value} {base : Heap} {j k : Nat} {c : Str} {ks : List Kd} {g : FN} (C : Kc P w K mg base j c ks g) (h : j ≤ k) : Kc P w K mg base k c ks g := by
  obtain ⟨f, fd, ps, F, a⟩ := C.ex
  exact ⟨f, fd, ps, F.mono h, a⟩
/-- a field's value -/
def fldD (c f : Str) : D → Option D
  | .obj c' fs => if c' = c then fs.lookup f else none
  | _ => none
def fd1 (c f : Str) (e : En) (o : Option D) : Option (D × En) := pr e (o.bind (fldD c f))
def fd0 (c f : Str) (p : Ov × En) : Option (D × En) := fd1 c f p.2 (fetch p.2 p.1)
theorem eFld_eq (c f : Str) (fo : FO) (env : En) : eFld c f fo env = (fo env).bind (fd0 c f) := by
  unfold eFld
  cases fo env with
  | none => rfl
  | some p =>
    simp only [Option.bind_some, fd0, fd1]
    cases fetch p.2 p.1 with
    | none => rfl
    | some d =>
      cases d <;> simp only [Option.bind_some, fldD] <;> first | rfl | skip
      split
      · rename_i c' fs h
        cases List.lookup f fs <;> rfl
      · rfl
theorem fd0_eq (c f : Str) (o : Ov) (e : En) : fd0 c f (o, e) = fd1 c f e (fetch e o) := id rfl
theorem fd1_eq (c f : Str) (e : En) (d : D) : fd1 c f e (some d) = pr e (fldD c f d) := id rfl
/-- a field set -/
def setFD (c f : Str) (v : D) : D → Option D
  | .obj c' fs => if c' ≠ c ∨ ¬ fs.length < 1000 then none else some (.obj c' (putFd f v fs))
  | _ => none
def sfd2 (i : Nat) (k : Kd) (e : En) (o : Option D) : Option Out := o.map fun d => .nx (e.set i (some (k, d)))
def sfd1 (i : Nat) (c f : Str) (v : D) (e : En) : Option (Option Sl) → Option Out
  | some (some (.ow, d)) => sfd2 i .ow e (setFD c f v d)
  | some (some (.pn, d)) => sfd2 i .pn e (setFD c f v d)
  | _ => none
def sfd0 (i : Nat) (c f : Str) (p : D × En) : Option Out := sfd1 i c f p.1 p.2 p.2[i]?
theorem sFd_eq (i : Nat) (c f : Str) (fv : FE) (env : En) : sFd i c f fv env = (fv env).bind (sfd0 i c f) := by
  unfold sFd
  cases fv env with
  | none => rfl
  | some p =>
    obtain ⟨v, e⟩ := p
    simp only [Option.bind_some, sfd0]
    unfold oS
    cases e[i]? with
    | none => rfl
    | some z =>
      cases z with
      | none => rfl
      | some kd =>
        obtain ⟨k, d⟩ := kd
        cases k <;> cases d <;> simp [sfd1, sfd2, setFD] <;> split <;> rfl
theorem sfd0_eq (i : Nat) (c f : Str) (v : D) (e : En) : sfd0 i c f (v, e) = sfd1 i c f v e e[i]? := id rfl
theorem sfd1_ow (i : Nat) (c f : Str) (v d : D) (e : En) : sfd1 i c f v e (some (some (.ow, d))) = sfd2 i .ow e (setFD c f v d) := id rfl
theorem sfd1_pn (i : Nat) (c f : Str) (v d : D) (e : En) : sfd1 i c f v e (some (some (.pn, d))) = sfd2 i .pn e (setFD c f v d) := id rfl
theorem sfd2_eq (i : Nat) (k : Kd) (e : En) (d : D) : sfd2 i k e (some d) = some (.nx (e.set i (some (k, d)))) := id rfl
/-- an object of the class, without a field of that name -/
def hasM (c m : Str) : D → Bool
  | .obj c' fs => decide (c' = c) && (fs.lookup m).isNone
  | _ => false
theorem hasM_iff {c m c' : Str} {fs : List (Str × D)} : hasM c m (.obj c' fs) = true ↔ c' = c ∧ (fs.lookup m).isNone = true := by
  simp [hasM]
def me3 (ks : List Kd) (g : FN) (d : D) (e : En) (ds : List D) : Option (Bool × D × En) := if allSh ks = true ∧ ds.length + 1 = ks.length then cv3 e (g (d :: ds)) else none
def me2 (ks : List Kd) (g : FN) (d : D) (p : List Ov × En) : Option (Bool × D × En) := (allD p.1).bind (me3 ks g d p.2)
def me1 (ks : List Kd) (g : FN) (fa : FA) (d : D) (e : En) (b : Bool) : Option (Bool × D × En) := if b then (fa e).bind (me2 ks g d) else none
def me0 (c m : Str) (ks : List Kd) (g : FN) (fa : FA) (p : D × En) : Option (Bool × D × En) := me1 ks g fa p.1 p.2 (hasM c m p.1)
theorem exM_eq (c m : Str) (ks : List Kd) (g : FN) (fr : FE) (fa : FA) (env : En) : exM c m ks g fr fa env = (fr env).bind (me0 c m ks g fa) := by
  unfold exM
  cases fr env with
  | none => rfl
  | some p =>
    obtain ⟨d, e⟩ := p
    simp only [Option.bind_some, me0, me1]
    cases d <;> first | rfl | skip
    rename_i c' fs
    by_cases h : hasM c m (.obj c' fs) = true
    · rw [if_pos h]
      simp only
      rw [if_pos (hasM_iff.mp h)]
      cases fa e with
      | none => rfl
      | some q =>
        simp only [Option.bind_some, me2]
        cases allD q.1 with
        | none => rfl
        | some ds =>
          simp only [Option.bind_some, me3]
          split
          · cases g (D.obj c' fs :: ds) with
            | none => rfl
            | some r => cases r; rfl
          · rfl
    · rw [if_neg h]
      simp only
      rw [if_neg fun z => h (hasM_iff.mpr z)]
theorem eMeth_eq (c m : Str) (ks : List Kd) (g : FN) (fr : FE) (fa : FA) (env : En) : eMeth c m ks g fr fa env = cvE ((fr env).bind (me0 c m ks g fa)) := by
  unfold eMeth
  rw [exM_eq]
  rfl
theorem eMethF_eq (c m : Str) (ks : List Kd) (g : FN) (fr : FE) (fa : FA) (env : En) : eMethF c m ks g fr fa env = cvF ((fr env).bind (me0 c m ks g fa)) := by
  unfold eMethF
  rw [exM_eq]
  cases (fr env).bind (me0 c m ks g fa) with
  | none => rfl
  | some r =>
    obtain ⟨b, d, e⟩ := r
    cases b <;> rfl
theorem me0_eq (c m : Str) (ks : List Kd) (g : FN) (fa : FA) (d : D) (e : En) : me0 c m ks g fa (d, e) = me1 ks g fa d e (hasM c m d) := id rfl
theorem me1_eq (ks : List Kd) (g : FN) (fa : FA) (d : D) (e : En) : me1 ks g fa d e true = (fa e).bind (me2 ks g d) := id rfl
theorem me2_eq (ks : List Kd) (g : FN) (d : D) (os : List Ov) (e : En) : me2 ks g d (os, e) = (allD os).bind (me3 ks g d e) := id rfl
theorem me3_0 (g : FN) (d : D) (e : En) : me3 [.sh] g d e [] = cv3 e (g [d]) := id rfl
theorem me3_1 (g : FN) (d a : D) (e : En) : me3 [.sh, .sh] g d e [a] = cv3 e (g [d, a]) := id rfl
theorem me3_2 (g : FN) (d a b : D) (e : En) : me3 [.sh, .sh, .sh] g d e [a, b] = cv3 e (g [d, a, b]) := id rfl
theorem me3_3 (g : FN) (d a b c : D) (e : En) : me3 [.sh, .sh, .sh, .sh] g d e [a, b, c] = cv3 e (g [d, a, b, c]) := id rfl
def mp1 (i : Nat) (ks : List Kd) (g : FN) (fa : FA) (env : En) (b : Bool) : Option (Bool × D × En) := if b then (fa env).bind (cp1 i ks g) else none
def mp0 (i : Nat) (c m : Str) (ks : List Kd) (g : FN) (fa : FA) (env : En) : Option (Option Sl) → Option (Bool × D × En)
  | some (some (.ow, d)) => mp1 i ks g fa env (hasM c m d)
  | some (some (.pn, d)) => mp1 i ks g fa env (hasM c m d)
  | _ => none
theorem exMP_eq (i : Nat) (c m : Str) (ks : List Kd) (g : FN) (fa : FA) (env : En) : exMP i c m ks g fa env = mp0 i c m ks g fa env env[i]? := by
  unfold exMP
  cases env[i]? with
  | none => rfl
  | some z =>
    cases z with
    | none => rfl
    | some kd =>
      obtain ⟨k0, d⟩ := kd
      have key : ∀ k0 d, k0 ≠ Kd.sh → (match (some (some (k0, d)) : Option (Option Sl)) with
          | some (some (k0, .obj c' fs)) => if c' = c ∧ (fs.lookup m).isNone = true ∧ k0 ≠ .sh then (fa env).bind fun p => (allD p.1).bind fun ds => match p.2[i]? with
            | some (some (k, d0)) => if k ≠ .sh ∧ allSh ks ∧ ds.length = ks.length then match g (d0 :: ds) with
              | some (.ok own d (d1 :: _)) => some (own, d, p.2.set i (some (k, d1)))
              | _ => none else none
            | _ => none else none
          | _ => none) = mp1 i ks g fa env (hasM c m d) := fun k0 d hk => by
        cases d <;> first | rfl | skip
        rename_i c' fs
        unfold mp1
        by_cases h : hasM c m (.obj c' fs) = true
        · rw [if_pos h]
          simp only
          rw [if_pos ⟨(hasM_iff.mp h).1, (hasM_iff.mp h).2, hk⟩]
          cases fa env with
          | none => rfl
          | some p =>
            simp only [Option.bind_some, cp1]
            cases allD p.1 with
            | none => rfl
            | some ds =>
              simp only [Option.bind_some, cp2]
              cases p.2[i]? with
              | none => rfl
              | some z =>
                cases z with
                | none => rfl
                | some kd =>
                  obtain ⟨k, d0⟩ := kd
                  simp only [cp3]
                  split
                  · cases g (d0 :: ds) with
                    | none => rfl
                    | some r =>
                      obtain ⟨own, d, outs⟩ := r
                      cases outs <;> rfl
                  · rfl
        · rw [if_neg h]
          simp only
          rw [if_neg fun z => h (hasM_iff.mpr ⟨z.1, z.2.1⟩)]
      cases k0 with
      | sh => 
        show _ = none
        cases d <;> first | rfl | skip
        simp only
        rw [if_neg (fun z => z.2.2 rfl)]
      | ow => exact key .ow d (by decide)
      | pn => exact key .pn d (by decide)
theorem eMethP_eq (i : Nat) (c m : Str) (ks : List Kd) (g : FN) (fa : FA) (env : En) : eMethP i c m ks g fa env = cvE (mp0 i c m ks g fa env env[i]?) := by
  unfold eMethP
  rw [exMP_eq]
  rfl
theorem eMethPF_eq (i : Nat) (c m : Str) (ks : List Kd) (g : FN) (fa : FA) (env : En) : eMethPF i c m ks g fa env = cvF (mp0 i c m ks g fa env env[i]?) := by
  unfold eMethPF
  rw [exMP_eq]
  cases mp0 i c m ks g fa env env[i]? with
  | none => rfl
  | some r =>
    obtain ⟨b, d, e⟩ := r
    cases b <;> rfl
theorem mp0_ow (i : Nat) (c m : Str) (ks : List Kd) (g : FN) (fa : FA) (env : En) (d : D) : mp0 i c m ks g fa env (some (some (.ow, d))) = mp1 i ks g fa env (hasM c m d) := id rfl
theorem mp0_pn (i : Nat) (c m : Str) (ks : List Kd) (g : FN) (fa : FA) (env : En) (d : D) : mp0 i c m ks g fa env (some (some (.pn, d))) = mp1 i ks g fa env (hasM c m d) := id rfl
theorem mp1_eq (i : Nat) (ks : List Kd) (g : FN) (fa : FA) (env : En) : mp1 i ks g fa env true = (fa env).bind (cp1 i ks g) := id rfl
/-- a new object -/
def nw2 (e : En) : Option Res → Option (D × En)
  | some (.ok false .non (d1 :: _)) => some (d1, e)
  | _ => none
def nw1 (c : Str) (ks : List Kd) (g : FN) (e : En) (ds : List D) : Option (D × En) := if allSh ks = true ∧ ds.length = ks.length then nw2 e (g (.obj c [] :: ds)) else none
def nw0 (c : Str) (ks : List Kd) (g : FN) (p : List Ov × En) : Option (D × En) := (allD p.1).bind (nw1 c ks g p.2)
theorem eNew_eq (c : Str) (ks : List Kd) (g : FN) (fa : FA) (env : En) : eNew c ks g fa env = (fa env).bind (nw0 c ks g) := by
  unfold eNew
  cases fa env with
  | none => rfl
  | some p =>
    simp only [Option.bind_some, nw0]
    cases allD p.1 with
    | none => rfl
    | some ds =>
      simp only [Option.bind_some, nw1]
      split
      · cases g (D.obj c [] :: ds) with
        | none => rfl
        | some r =>
          obtain ⟨own, d, outs⟩ := r
          cases own <;> cases d <;> cases outs <;> rfl
      · rfl
theorem nw0_eq (c : Str) (ks : List Kd) (g : FN) (os : List Ov) (e : En) : nw0 c ks g (os, e) = (allD os).bind (nw1 c ks g e) := id rfl
theorem nw1_0 (c : Str) (g : FN) (e : En) : nw1 c [] g e [] = nw2 e (g [.obj c []]) := id rfl
theorem nw1_1 (c : Str) (g : FN) (e : En) (a : D) : nw1 c [.sh] g e [a] = nw2 e (g [.obj c [], a]) := id rfl
theorem nw1_2 (c : Str) (g : FN) (e : En) (a b : D) : nw1 c [.sh, .sh] g e [a, b] = nw2 e (g [.obj c [], a, b]) := id rfl
theorem nw2_eq (e : En) (d1 : D) (o : List D) : nw2 e (some (.ok false .non (d1 :: o))) = some (d1, e) := id rfl
/-- an object of the class -/
def isC (c : Str) : D → Bool
  | .obj c' _ => decide (c' = c)
  | _ => false
theorem isC_iff {c c' : Str} {fs : List (Str × D)} : isC c (.obj c' fs) = true ↔ c' = c := by
  simp [isC]
def xq3 (e : En) : Option Res → Option (D × En)
  | some (.ok false (.bl t) _) => some (.bl t, e)
  | _ => none
def xq2 (g : FN) (d d2 : D) (e : En) (b b2 : Bool) : Option (D × En) := if b && b2 then xq3 e (g [d, d2]) else none
def xq1 (c : Str) (g : FN) (d : D) (p : D × En) : Option (D × En) := xq2 g d p.1 p.2 (isC c d) (isC c p.1)
def xq0 (c : Str) (g : FN) (fb : FE) (p : D × En) : Option (D × En) := (fb p.2).bind (xq1 c g p.1)
theorem exEq_eq (c : Str) (g : FN) (fa fb : FE) (env : En) : exEq c g fa fb env = (fa env).bind (xq0 c g fb) := by
  unfold exEq
  cases fa env with
  | none => rfl
  | some p =>
    simp only [Option.bind_some, xq0]
    cases fb p.2 with
    | none => rfl
    | some q =>
      obtain ⟨d, e⟩ := p
      obtain ⟨d2, e2⟩ := q
      simp only [Option.bind_some, xq1, xq2]
      cases d <;> first | rfl | skip
      rename_i c1 fs
      cases d2 <;> first | (simp only [isC, Bool.and_false, Bool.false_eq_true, if_false]; done) | skip
      rename_i c2 gs
      simp only
      by_cases h : c1 = c
      · by_cases h2 : c2 = c
        · rw [if_pos ⟨h, h2⟩, if_pos (by rw [isC_iff.mpr h, isC_iff.mpr h2]; rfl)]
          cases g [D.obj c1 fs, D.obj c2 gs] with
          | none => rfl
          | some r =>
            obtain ⟨own, d, outs⟩ := r
            cases own <;> cases d <;> rfl
        · rw [if_neg (fun z => h2 z.2), if_neg (fun z => h2 (isC_iff.mp (Bool.and_eq_true_iff.mp z).2))]
      · rw [if_neg (fun z => h z.1), if_neg (fun z => h (isC_iff.mp (Bool.and_eq_true_iff.mp z).1))]
theorem xq0_eq (c : Str) (g : FN) (fb : FE) (d : D) (e : En) : xq0 c g fb (d, e) = (fb e).bind (xq1 c g d) := id rfl
theorem xq1_eq (c : Str) (g : FN) (d d2 : D) (e : En) : xq1 c g d (d2, e) = xq2 g d d2 e (isC c d) (isC c d2) := id rfl
theorem xq2_eq (g : FN) (d d2 : D) (e : En) : xq2 g d d2 e true true = xq3 e (g [d, d2]) := id rfl
theorem xq3_eq (e : En) (t : Bool) (o : List D) : xq3 e (some (.ok false (.bl t) o)) = some (.bl t, e) := id rfl
def iso1 (c : Str) (b : Bool) : Option D := if b then some (.bl true) else none
theorem iso_eq (c : Str) (d : D) : isoD c [d, .cls c] = iso1 c (isC c d) := by
  cases d <;> first | rfl | skip
  rename_i c' fs
  unfold iso1 isoD
  by_cases h : c' = c
  · rw [if_pos (isC_iff.mpr h)]
    exact if_pos ⟨h, rfl⟩
  · rw [if_neg (fun z => h (isC_iff.mp z))]
    exact if_neg (fun z => h z.1)
theorem iso1_t (c : Str) : iso1 c true = some (.bl true) := id rfl
end Qd
namespace Qd
open PySem PySem.Spec L2
theorem ixS_last (x : List Nat) (c : Nat) (h : x.length ≤ 999999) : ixD (.str (x ++ [c])) (.int (-1)) = some (.str [c]) := by
  have e : atI (x ++ [c]) (-1) = some c := by
    unfold atI ixN
    rw [if_neg (by decide), if_pos (by simp; omega), Option.bind_some]
    have : ((-1 : Int) + ((x ++ [c]).length : Int)).toNat = x.length := by simp; omega
    rw [this]
    simp
  show (if (x ++ [c]).length ≤ sizeLine then (atI (x ++ [c]) (-1)).map (fun c => D.str [c]) else none) = _
  rw [e, if_pos (Nat.le_trans (show (x ++ [c]).length ≤ 1000000 by simp; omega) (by decide))]
  rfl
theorem ixS_at (x : List Nat) (n c : Nat) (h : x.length ≤ 1000000) (e : x[n]? = some c) : ixD (.str x) (.int (n : Int)) = some (.str [c]) := by
  show (if x.length ≤ sizeLine then (atI x (n : Int)).map (fun c => D.str [c]) else none) = _
  rw [atI_of e, if_pos (Nat.le_trans h (by decide))]
  rfl
theorem ixS_01 (n : Nat) (h : n < 2) : ∃ c, (c = 48 ∨ c = 49) ∧ ixD (.str [48, 49]) (.int (n : Int)) = some (.str [c]) := by
  rcases (show n = 0 ∨ n = 1 by omega) with rfl | rfl
  · exact ⟨48, .inl rfl, ixS_at _ 0 48 (by decide) rfl⟩
  · exact ⟨49, .inr rfl, ixS_at _ 1 49 (by decide) rfl⟩
theorem mulD_s (a : List Nat) (n : Nat) (h : n < 1000000) (h2 : a.length * n ≤ 1000000) : mulD (.str a) (.int (n : Int)) = some (.str (List.replicate n a).flatten) := by
  show (if 0 ≤ (n : Int) ∧ (n : Int) < 1000000 ∧ a.length * (n : Int).toNat ≤ sizeLine then some (D.str (List.replicate (n : Int).toNat a).flatten) else none) = _
  rw [Int.toNat_natCast, if_pos ⟨by omega, by omega, Nat.le_trans h2 (by decide)⟩]
theorem inD_sign (c : Nat) (z : List Nat) : inD (.str [c]) (.str z) = some (.bl (decide (c ∈ z))) := id rfl
theorem joinL_nil : ∀ xs : List (List Nat), TL.joinL [] xs = xs.flatten
  | [] => rfl
  | [p] => by simp [TL.joinL]
  | p :: q :: r => by
    rw [TL.joinL, joinL_nil (q :: r)]
    simp
theorem joinD_s (xs : List (List Nat)) (h : xs.flatten.length ≤ 1000000) : joinD (.str []) [.lst (xs.map D.str)] = some (.str xs.flatten) := by
  show (strsD (xs.map D.str)).bind (fun xs => if (xs.map (·.length)).sum + xs.length * ([] : List Nat).length ≤ 16777216 then some (D.str (TL.joinL [] xs)) else none) = _
  rw [strsD_map, Option.bind_some, joinL_nil, if_pos]
  rw [List.length_flatten] at h
  simp only [List.length_nil, Nat.mul_zero, Nat.add_zero]
  exact Nat.le_trans h (by decide)
theorem joinD_sep (a : List Nat) (xs : List (List Nat)) (h : (xs.map (·.length)).sum + xs.length * a.length ≤ 1000000) : joinD (.str a) [.lst (xs.map D.str)] = some (.str (TL.joinL a xs)) := by
  show (strsD (xs.map D.str)).bind (fun xs => if (xs.map (·.length)).sum + xs.length * a.length ≤ 16777216 then some (D.str (TL.joinL a xs)) else none) = _
  rw [strsD_map, Option.bind_some, if_pos (Nat.le_trans h (by decide))]
theorem maxD2_i (i j : Int) : maxD2 [.int i, .int j] = some (.int (if j > i then j else i)) := id rfl
theorem minD2_i (i j : Int) : minD2 [.int i, .int j] = some (.int (if j < i then j else i)) := id rfl
def is0 (e : En) : Option D → Option (List D × Bs × En)
  | some (.str x) => some (x.map fun c => .str [c], [], e)
  | _ => none
def is1 (p : Ov × En) : Option (List D × Bs × En) := is0 p.2 (fetch p.2 p.1)
theorem iS_eq (fo : FO) (env : En) : iS fo env = (fo env).bind is1 := by
  unfold iS
  cases fo env with
  | none => rfl
  | some p =>
    simp only [Option.bind_some, is1]
    cases fetch p.2 p.1 with
    | none => rfl
    | some d => cases d <;> rfl
theorem is1_eq (o : Ov) (e : En) : is1 (o, e) = is0 e (fetch e o) := id rfl
theorem is0_eq (e : En) (x : List Nat) : is0 e (some (.str x)) = some (x.map fun c => .str [c], [], e) := id rfl
def ir2d (a b : Int) (e : En) : Option (List D × Bs × En) := if -1000000000 ≤ a ∧ a < 1000000000 ∧ -1000000000 ≤ b ∧ b < 1000000000 then some (rng a (b - a).toNat, [], e) else none
def ir2c (a : Int) : D × En → Option (List D × Bs × En)
  | (.int b, e) => ir2d a b e
  | _ => none
def ir2a (fb : FE) : D × En → Option (List D × Bs × En)
  | (.int a, e) => (fb e).bind (ir2c a)
  | _ => none
theorem iR2_eq (fa fb : FE) (env : En) : iR2 fa fb env = (fa env).bind (ir2a fb) := by
  unfold iR2
  cases fa env with
  | none => rfl
  | some p =>
    obtain ⟨d, e⟩ := p
    cases d <;> first | rfl | skip
    rename_i a
    show ((asI (.int a)).bind fun a => _) = (fb e).bind (ir2c a)
    simp only [asI, Option.bind_some]
    cases fb e with
    | none => rfl
    | some q =>
      obtain ⟨d2, e2⟩ := q
      cases d2 <;> rfl
theorem ir2a_eq (fb : FE) (a : Int) (e : En) : ir2a fb (.int a, e) = (fb e).bind (ir2c a) := id rfl
theorem ir2c_eq (a b : Int) (e : En) : ir2c a (.int b, e) = ir2d a b e := id rfl
theorem ir2d_eq (a b : Int) (e : En) (h : -1000000000 ≤ a ∧ a < 1000000000 ∧ -1000000000 ≤ b ∧ b < 1000000000) : ir2d a b e = some (rng a (b - a).toNat, [], e) := if_pos h
end Qd
namespace Qm
open Qd
/-- the sign of a row at a place -/
def sgn (h r : Wd) (i : Nat) : Nat := if i < h.length then h.getD i 0 else r.getD ((i - h.length) % r.length) 0
/-- a row with period p from n on -/
def Per (x : Nat → Nat) (n p : Nat) : Prop := ∀ i, n ≤ i → x (i + p) = x i
theorem sgn_per (h r : Wd) : Per (sgn h r) h.length r.length := fun i hi => by
  unfold sgn
  rw [if_neg (by omega), if_neg (by omega), show i + r.length - h.length = (i - h.length) + r.length by omega, Nat.add_mod_right]
theorem Per.mul {x : Nat → Nat} {n p : Nat} (h : Per x n p) (k : Nat) : Per x n (k * p) := by
  induction k with
  | zero => intro i _; simp
  | succ k ih =>
    intro i hi
    rw [Nat.succ_mul, ← Nat.add_assoc, h _ (by omega), ih i hi]
theorem Per.ge {x : Nat → Nat} {n m p : Nat} (h : Per x n p) (hm : n ≤ m) : Per x m p := fun i hi => h i (by omega)
/-- two rows that agree long enough agree for ever -/
theorem agree {x y : Nat → Nat} {n p q : Nat} (hx : Per x n p) (hy : Per y n q) (hp : 0 < p) (hq : 0 < q) (h : ∀ i, i < n + p + q → x i = y i) : ∀ i, x i = y i := by
  intro i
  induction i using Nat.strongRecOn with
  | _ i ih =>
    by_cases hi : i < n + p + q
    · exact h i hi
    · have e1 : x i = x (i - p) := by
        have := hx (i - p) (by omega)
        rwa [show i - p + p = i by omega] at this
      have e2 : y (i - p) = y (i - p - q) := by
        have := hy (i - p - q) (by omega)
        rwa [show i - p - q + q = i - p by omega] at this
      have e3 : x (i - q) = x (i - q - p) := by
        have := hx (i - q - p) (by omega)
        rwa [show i - q - p + p = i - q by omega] at this
      have e4 : y i = y (i - q) := by
        have := hy (i - q) (by omega)
        rwa [show i - q + q = i by omega] at this
      rw [e1, ih (i - p) (by omega), e2, e4, ← ih (i - q) (by omega), e3, show i - q - p = i - p - q by omega, ih (i - p - q) (by omega)]
/-- a period from somewhere is a period from where the row is round -/
theorem Per.back {x : Nat → Nat} {n m p q : Nat} (hx : Per x n p) (hp : 0 < p) (hy : Per x m q) : Per x n q := fun i hi => by
  have h1 := hx.mul m
  have e1 := h1 (i + q) (by omega)
  have e2 := h1 i hi
  have : m ≤ i + m * p := by
    have : m * 1 ≤ m * p := Nat.mul_le_mul_left m hp
    omega
  have e3 := hy (i + m * p) this
  rw [← e1, show i + q + m * p = i + m * p + q by omega, e3, e2]
theorem Per.sub {x : Nat → Nat} {n p q : Nat} (hp : Per x n p) (hq : Per x n q) (h : q ≤ p) : Per x n (p - q) := fun i hi => by
  have := hq (i + (p - q)) (by omega)
  rw [show i + (p - q) + q = i + p by omega, hp i hi] at this
  exact this.symm
theorem Per.gcd {x : Nat → Nat} {n : Nat} : ∀ (k p q : Nat), p + q ≤ k → 0 < p → 0 < q → Per x n p → Per x n q → Per x n (Nat.gcd p q)
  | 0, p, q, h, h1, _, _, _ => by omega
  | k + 1, p, q, h, h1, h2, hp, hq => by
    by_cases e : p = q
    · subst e
      rw [Nat.gcd_self]
      exact hp
    · by_cases l : q < p
      · have := Per.gcd k (p - q) q (by omega) (by omega) h2 (hp.sub hq (by omega)) hq
        rwa [Nat.gcd_sub_self_left (by omega)] at this
      · have := Per.gcd k p (q - p) (by omega) h1 (by omega) hp (hq.sub hp (by omega))
        rwa [Nat.gcd_sub_self_right (by omega)] at this
/-- rows of the same period that agree for one turn agree for ever -/
theorem agree_mul {x y : Nat → Nat} {n p q : Nat} (hx : Per x n p) (hy : Per y n q) (hp : 0 < p) (hq : 0 < q) (h : ∀ i, i < n + p * q → x i = y i) : ∀ i, x i = y i := by
  have h1 : Per x n (p * q) := by
    have := hx.mul q
    rwa [Nat.mul_comm] at this
  have h2 : Per y n (p * q) := hy.mul p
  have hpq : 0 < p * q := Nat.mul_pos hp hq
  intro i
  induction i using Nat.strongRecOn with
  | _ i ih =>
    by_cases hi : i < n + p * q
    · exact h i hi
    · have e1 := h1 (i - p * q) (by omega)
      have e2 := h2 (i - p * q) (by omega)
      rw [show i - p * q + p * q = i by omega] at e1 e2
      rw [e1, e2]
      exact ih _ (by omega)
/-- the first unlike sign is the lesser one -/
def Lt (x y : Nat → Nat) : Prop := ∃ d, (∀ i, i < d → x i = y i) ∧ x d < y d
theorem pre_get (x : Nat → Nat) (n i : Nat) (h : i < (pre x n).length) : (pre x n)[i] = x i := by simp [pre]
theorem pre_lt (x y : Nat → Nat) (n : Nat) : pre x n < pre y n ↔ ∃ d, d < n ∧ (∀ i, i < d → x i = y i) ∧ x d < y d := by
  rw [List.lt_iff_exists]
  constructor
  · rintro (⟨_, h⟩ | ⟨i, h1, h2, h3, h4⟩)
    · rw [pre_len, pre_len] at h
      omega
    · rw [pre_len] at h1
      refine ⟨i, h1, fun j hj => ?_, ?_⟩
      · have := h3 j hj
        rwa [pre_get, pre_get] at this
      · rwa [pre_get, pre_get] at h4
  · rintro ⟨d, hd, h1, h2⟩
    refine .inr ⟨d, by rw [pre_len]; exact hd, by rw [pre_len]; exact hd, fun j hj => ?_, ?_⟩
    · rw [pre_get, pre_get]
      exact h1 j hj
    · rw [pre_get, pre_get]
      exact h2
theorem pre_lt_iff {x y : Nat → Nat} {n : Nat} (h : (∀ i, i < n → x i = y i) → ∀ i, x i = y i) : pre x n < pre y n ↔ Lt x y := by
  rw [pre_lt]
  constructor
  · exact fun ⟨d, _, h1, h2⟩ => ⟨d, h1, h2⟩
  · rintro ⟨d, h1, h2⟩
    by_cases hd : d < n
    · exact ⟨d, hd, h1, h2⟩
    · exfalso
      have := h (fun i hi => h1 i (by omega)) d
      omega
theorem Lt.asymm {x y : Nat → Nat} (h1 : Lt x y) (h2 : Lt y x) : False := by
  obtain ⟨d, a, b⟩ := h1
  obtain ⟨e, a', b'⟩ := h2
  rcases Nat.lt_trichotomy d e with h | h | h
  · have := a' d h
    omega
  · subst h
    omega
  · have := a e h
    omega
theorem Lt.trans {x y z : Nat → Nat} (h1 : Lt x y) (h2 : Lt y z) : Lt x z := by
  obtain ⟨d, a, b⟩ := h1
  obtain ⟨e, a', b'⟩ := h2
  rcases Nat.lt_trichotomy d e with h | h | h
  · exact ⟨d, fun i hi => (a i hi).trans (a' i (by omega)), by rw [← a' d h]; exact b⟩
  · subst h
    exact ⟨d, fun i hi => (a i hi).trans (a' i hi), by omega⟩
  · exact ⟨e, fun i hi => (a i (by omega)).trans (a' i hi), by rw [a e h]; exact b'⟩
theorem Lt.tri {x y : Nat → Nat} (h1 : ¬ Lt x y) (h2 : ¬ Lt y x) : ∀ i, x i = y i := by
  intro i
  induction i using Nat.strongRecOn with
  | _ i ih =>
    rcases Nat.lt_trichotomy (x i) (y i) with h | h | h
    · exact absurd ⟨i, ih, h⟩ h1
    · exact h
    · exact absurd ⟨i, fun j hj => (ih j hj).symm, h⟩ h2
theorem rep_get (r : Wd) (hr : 0 < r.length) : ∀ (m j : Nat), j < m * r.length → (List.replicate m r).flatten[j]? = some (r.getD (j % r.length) 0)
  | 0, j, h => by simp at h
  | m + 1, j, h => by
    rw [List.replicate_succ, List.flatten_cons]
    by_cases hj : j < r.length
    · rw [List.getElem?_append_left hj, Nat.mod_eq_of_lt hj, List.getElem?_eq_getElem hj, List.getD_eq_getElem?_getD, List.getElem?_eq_getElem hj]
      rfl
    · rw [List.getElem?_append_right (by omega), rep_get r hr m (j - r.length) (by rw [Nat.succ_mul] at h; omega)]
      have : (j - r.length) % r.length = j % r.length := by
        rw [Nat.mod_eq_sub_mod (a := j) (by omega)]
      rw [this]
theorem rep_len (r : Wd) (m : Nat) : (List.replicate m r).flatten.length = m * r.length := by simp
theorem first_eq (h r : Wd) (hr : 0 < r.length) (m n : Nat) (hn : n ≤ h.length + m * r.length) : (h ++ (List.replicate m r).flatten).take n = pre (sgn h r) n := by
  apply List.ext_getElem?
  intro i
  by_cases hi : i < n
  · rw [List.getElem?_take_of_lt hi]
    have e : (pre (sgn h r) n)[i]? = some (sgn h r i) := by
      rw [List.getElem?_eq_getElem (by rw [pre_len]; exact hi), pre_get]
    rw [e]
    unfold sgn
    by_cases hh : i < h.length
    · rw [List.getElem?_append_left hh, if_pos hh, List.getD_eq_getElem?_getD, List.getElem?_eq_getElem hh]
      rfl
    · rw [List.getElem?_append_right (by omega), if_neg hh, rep_get r hr m _ (by omega)]
  · rw [List.getElem?_eq_none (by simp; omega), List.getElem?_eq_none (by rw [pre_len]; omega)]
end Qm
namespace Qm
open Qd
/-- a ring is its first k signs again and again -/
def rep (r : Wd) (k : Nat) : Prop := (List.replicate (r.length / k) (r.take k)).flatten = r
instance (r : Wd) (k : Nat) : Decidable (rep r k) := inferInstanceAs (Decidable (_ = _))
theorem rep_self (r : Wd) (h : 0 < r.length) : rep r r.length := by
  unfold rep
  rw [Nat.div_self h, List.take_length]
  simp
theorem rep_dvd {r : Wd} {k : Nat} (hk : k ≤ r.length) (h : rep r k) : k ∣ r.length := by
  have := congrArg List.length h
  rw [rep_len, List.length_take, Nat.min_eq_left hk] at this
  exact ⟨r.length / k, by rw [Nat.mul_comm]; exact this.symm⟩
/-- no shorter ring tells the same -/
def Prim (r : Wd) : Prop := 0 < r.length ∧ ∀ k, 0 < k → k < r.length → ¬ rep r k
theorem sgn_nil (r : Wd) (i : Nat) : sgn [] r i = r.getD (i % r.length) 0 := by
  unfold sgn
  simp
theorem rep_per {r : Wd} {k : Nat} (h0 : 0 < k) (hk : k ≤ r.length) : rep r k ↔ k ∣ r.length ∧ Per (sgn [] r) 0 k := by
  have hl : (r.take k).length = k := by rw [List.length_take, Nat.min_eq_left hk]
  have hr : 0 < r.length := by omega
  constructor
  · intro h
    refine ⟨rep_dvd hk h, fun i _ => ?_⟩
    obtain ⟨m, hm⟩ := rep_dvd hk h
    have key : ∀ j, j < r.length → r.getD j 0 = (r.take k).getD (j % k) 0 := fun j hj => by
      have := rep_get (r.take k) (by omega) (r.length / k) j (by rw [hl, Nat.div_mul_cancel (rep_dvd hk h)]; exact hj)
      rw [show (List.replicate (r.length / k) (r.take k)).flatten = r from h, hl] at this
      rw [List.getD_eq_getElem?_getD, this]
      rfl
    rw [sgn_nil, sgn_nil, key _ (Nat.mod_lt _ hr), key _ (Nat.mod_lt _ hr), Nat.mod_mod_of_dvd _ (rep_dvd hk h), Nat.mod_mod_of_dvd _ (rep_dvd hk h), Nat.add_mod_right]
  · rintro ⟨hd, hp⟩
    unfold rep
    apply List.ext_getElem?
    intro j
    by_cases hj : j < r.length
    · rw [rep_get (r.take k) (by omega) _ j (by rw [hl, Nat.div_mul_cancel hd]; exact hj), hl]
      have e1 : sgn [] r j = sgn [] r (j % k) := by
        have := hp.mul (j / k) (j % k) (by omega)
        rw [show j % k + j / k * k = j by rw [Nat.mul_comm]; exact Nat.mod_add_div j k] at this
        exact this
      have hm : j % k < k := Nat.mod_lt _ h0
      rw [sgn_nil, sgn_nil, Nat.mod_eq_of_lt hj, Nat.mod_eq_of_lt (by omega)] at e1
      rw [List.getElem?_eq_getElem hj]
      rw [List.getD_eq_getElem?_getD, List.getElem?_eq_getElem hj, Option.getD_some] at e1
      rw [e1, List.getD_eq_getElem?_getD, List.getD_eq_getElem?_getD, List.getElem?_take_of_lt hm]
    · rw [List.getElem?_eq_none (by rw [rep_len, hl, Nat.div_mul_cancel hd]; omega), List.getElem?_eq_none (by omega)]
/-- the shortest ring -/
theorem exists_min (r : Wd) (h : 0 < r.length) : ∃ k, 0 < k ∧ k ≤ r.length ∧ rep r k ∧ ∀ j, 0 < j → j < k → ¬ rep r j := by
  have : ∀ n, n ≤ r.length → (∃ k, 0 < k ∧ k ≤ n ∧ rep r k ∧ ∀ j, 0 < j → j < k → ¬ rep r j) ∨ ∀ j, 0 < j → j ≤ n → ¬ rep r j := by
    intro n
    induction n with
    | zero => exact fun _ => .inr fun j h1 h2 => by omega
    | succ n ih =>
      intro hn
      rcases ih (by omega) with ⟨k, h1, h2, h3, h4⟩ | hno
      · exact .inl ⟨k, h1, by omega, h3, h4⟩
      · by_cases c : rep r (n + 1)
        · exact .inl ⟨n + 1, by omega, by omega, c, fun j h1 h2 => hno j h1 (by omega)⟩
        · refine .inr fun j h1 h2 => ?_
          by_cases e : j = n + 1
          · rw [e]
            exact c
          · exact hno j h1 (by omega)
  rcases this r.length (Nat.le_refl _) with ⟨k, h1, h2, h3, h4⟩ | hno
  · exact ⟨k, h1, h2, h3, h4⟩
  · exact absurd (rep_self r h) (hno _ h (Nat.le_refl _))
/-- k signs of it are the shortest ring -/
def Min (r : Wd) (k : Nat) : Prop := 0 < k ∧ k ≤ r.length ∧ rep r k ∧ ∀ j, 0 < j → j < k → ¬ rep r j
theorem Min.uniq {r : Wd} {k l : Nat} (h : Min r k) (g : Min r l) : k = l := by
  rcases Nat.lt_trichotomy k l with c | c | c
  · exact absurd h.2.2.1 (g.2.2.2 k h.1 c)
  · exact c
  · exact absurd g.2.2.1 (h.2.2.2 l g.1 c)
theorem sgn_take {r : Wd} {k : Nat} (h0 : 0 < k) (hk : k ≤ r.length) (h : rep r k) (i : Nat) : sgn [] (r.take k) i = sgn [] r i := by
  have hl : (r.take k).length = k := by rw [List.length_take, Nat.min_eq_left hk]
  have hp := ((rep_per h0 hk).mp h).2
  have hm : i % k < k := Nat.mod_lt _ h0
  have e : sgn [] r i = sgn [] r (i % k) := by
    have := hp.mul (i / k) (i % k) (by omega)
    rw [show i % k + i / k * k = i by rw [Nat.mul_comm]; exact Nat.mod_add_div i k] at this
    exact this
  rw [e, sgn_nil, sgn_nil, hl, Nat.mod_eq_of_lt (show i % k < r.length by omega), List.getD_eq_getElem?_getD, List.getD_eq_getElem?_getD, List.getElem?_take_of_lt hm]
theorem Min.prim {r : Wd} {k : Nat} (h : Min r k) : Prim (r.take k) := by
  have hl : (r.take k).length = k := by rw [List.length_take, Nat.min_eq_left h.2.1]
  refine ⟨by rw [hl]; exact h.1, fun j h1 h2 h3 => ?_⟩
  rw [hl] at h2
  obtain ⟨hd, hp⟩ := (rep_per h1 (by rw [hl]; omega)).mp h3
  rw [hl] at hd
  refine h.2.2.2 j h1 h2 ((rep_per h1 (by have := h.2.1; omega)).mpr ⟨Nat.dvd_trans hd (rep_dvd h.2.1 h.2.2.1), fun i hi => ?_⟩)
  rw [← sgn_take h.1 h.2.1 h.2.2.1, ← sgn_take h.1 h.2.1 h.2.2.1]
  exact hp i hi
theorem Prim.min {r : Wd} (h : Prim r) : Min r r.length := ⟨h.1, Nat.le_refl _, rep_self r h.1, h.2⟩
theorem Prim.per {r : Wd} (h : Prim r) {k : Nat} (h0 : 0 < k) (hk : k < r.length) (hd : k ∣ r.length) : ¬ Per (sgn [] r) 0 k := fun hp => h.2 k h0 hk ((rep_per h0 (by omega)).mpr ⟨hd, hp⟩)
end Qm
namespace Qm
open Qd
/-- a head and a ring in plain form -/
structure Can (h r : Wd) : Prop where
  prim : Prim r
  last : ∀ u c v, ¬ (h = u ++ [c] ∧ r = v ++ [c])
theorem sgn_lt {h r : Wd} {i : Nat} (hi : i < h.length) : sgn h r i = h.getD i 0 := if_pos hi
theorem sgn_ge {h r : Wd} {i : Nat} (hi : h.length ≤ i) : sgn h r i = sgn [] r (i - h.length) := by
  rw [sgn_nil]
  unfold sgn
  rw [if_neg (by omega)]
theorem sgn_add (h r : Wd) (i : Nat) : sgn h r (i + h.length) = sgn [] r i := by
  rw [sgn_ge (Nat.le_add_left _ _), Nat.add_sub_cancel]
theorem per_nil {h r : Wd} {k : Nat} (p : Per (sgn h r) h.length k) : Per (sgn [] r) 0 k := fun i _ => by
  have := p (i + h.length) (by omega)
  rw [show i + h.length + k = (i + k) + h.length by omega, sgn_add, sgn_add] at this
  exact this
/-- the last sign of a ring, told by the row -/
theorem sgn_last {h v : Wd} {c : Nat} : sgn h (v ++ [c]) (h.length + v.length) = c := by
  rw [sgn_ge (by omega), sgn_nil, Nat.add_sub_cancel_left, Nat.mod_eq_of_lt (by simp)]
  simp [List.getD_eq_getElem?_getD]
theorem Can.le {h1 r1 h2 r2 : Wd} (c1 : Can h1 r1) (c2 : Can h2 r2) (e : ∀ i, sgn h1 r1 i = sgn h2 r2 i) : h2.length ≤ h1.length := by
  rcases Nat.lt_or_ge h1.length h2.length with hl | hl
  · exfalso
    have p1 : Per (sgn h2 r2) h1.length r1.length := fun i hi => by rw [← e, ← e]; exact sgn_per h1 r1 i hi
    have p2 := p1.back c1.prim.1 (sgn_per h2 r2)
    rcases List.eq_nil_or_concat h2 with z | ⟨u, c, z⟩
    · rw [z] at hl
      simp at hl
    · rcases List.eq_nil_or_concat r2 with z2 | ⟨v, d, z2⟩
      · have := c2.prim.1
        rw [z2] at this
        simp at this
      · rw [List.concat_eq_append] at z z2
        have hh : h2.length = u.length + 1 := by rw [z]; simp
        have hr : r2.length = v.length + 1 := by rw [z2]; simp
        have q := p2 u.length (by omega)
        rw [show u.length + r2.length = h2.length + v.length by omega] at q
        have l1 : sgn h2 r2 (h2.length + v.length) = d := by
          rw [z2]
          exact sgn_last
        have l2 : sgn h2 r2 u.length = c := by
          rw [sgn_lt (by omega), z]
          simp [List.getD_eq_getElem?_getD]
        rw [l1, l2] at q
        subst q
        exact c2.last u d v ⟨z, z2⟩
  · exact hl
theorem Can.uniq {h1 r1 h2 r2 : Wd} (c1 : Can h1 r1) (c2 : Can h2 r2) (e : ∀ i, sgn h1 r1 i = sgn h2 r2 i) : h1 = h2 ∧ r1 = r2 := by
  have hl : h1.length = h2.length := Nat.le_antisymm (Can.le c2 c1 fun i => (e i).symm) (Can.le c1 c2 e)
  have eh : h1 = h2 := by
    apply List.ext_getElem hl
    intro i a b
    have := e i
    rw [sgn_lt a, sgn_lt b] at this
    simpa [List.getD_eq_getElem?_getD, a, b] using this
  have er : ∀ i, sgn [] r1 i = sgn [] r2 i := fun i => by
    have := e (i + h1.length)
    rw [sgn_add, show i + h1.length = i + h2.length by omega, sgn_add] at this
    exact this
  have p1 : Per (sgn [] r1) 0 r1.length := sgn_per [] r1
  have p2 : Per (sgn [] r1) 0 r2.length := fun i hi => by rw [er, er]; exact sgn_per [] r2 i hi
  have pg := Per.gcd _ _ _ (Nat.le_refl _) c1.prim.1 c2.prim.1 p1 p2
  have pg2 : Per (sgn [] r2) 0 (Nat.gcd r1.length r2.length) := fun i hi => by rw [← er, ← er]; exact pg i hi
  have g0 : 0 < Nat.gcd r1.length r2.length := Nat.gcd_pos_of_pos_left _ c1.prim.1
  have e1 : Nat.gcd r1.length r2.length = r1.length := by
    have := Nat.le_of_dvd c1.prim.1 (Nat.gcd_dvd_left r1.length r2.length)
    rcases Nat.lt_or_ge (Nat.gcd r1.length r2.length) r1.length with h | h
    · exact absurd pg (c1.prim.per g0 h (Nat.gcd_dvd_left _ _))
    · omega
  have e2 : Nat.gcd r1.length r2.length = r2.length := by
    have := Nat.le_of_dvd c2.prim.1 (Nat.gcd_dvd_right r1.length r2.length)
    rcases Nat.lt_or_ge (Nat.gcd r1.length r2.length) r2.length with h | h
    · exact absurd pg2 (c2.prim.per g0 h (Nat.gcd_dvd_right _ _))
    · omega
  refine ⟨eh, List.ext_getElem (by omega) fun i a b => ?_⟩
  have := er i
  rw [sgn_nil, sgn_nil, Nat.mod_eq_of_lt a, Nat.mod_eq_of_lt b] at this
  simpa [List.getD_eq_getElem?_getD, a, b] using this
end Qm
namespace Qm
open Qd
/-- one roll -/
theorem sgn_roll (u v : Wd) (c i : Nat) : sgn (u ++ [c]) (v ++ [c]) i = sgn u (c :: v) i := by
  have hl : (v ++ [c]).length = v.length + 1 := by simp
  have hc : (c :: v).length = v.length + 1 := rfl
  have hu : (u ++ [c]).length = u.length + 1 := by simp
  rcases Nat.lt_trichotomy i u.length with h | h | h
  · rw [sgn_lt (by omega), sgn_lt h]
    simp [List.getD_eq_getElem?_getD, List.getElem?_append_left h]
  · subst h
    rw [sgn_lt (by omega), sgn_ge (Nat.le_refl _), sgn_nil]
    simp [List.getD_eq_getElem?_getD]
  · rw [sgn_ge (h := u ++ [c]) (by omega), sgn_ge (h := u) (by omega), sgn_nil, sgn_nil, hl, hc, hu]
    obtain ⟨j, rfl⟩ : ∃ j, i = u.length + 1 + j := ⟨i - u.length - 1, by omega⟩
    rw [show u.length + 1 + j - (u.length + 1) = j by omega, show u.length + 1 + j - u.length = j + 1 by omega]
    have hm : j % (v.length + 1) < v.length + 1 := Nat.mod_lt _ (by omega)
    by_cases e : j % (v.length + 1) = v.length
    · have : (j + 1) % (v.length + 1) = 0 := by
        rw [Nat.add_mod, e]
        by_cases z : v.length = 0
        · simp [z]
        · rw [Nat.mod_eq_of_lt (show 1 < v.length + 1 by omega), Nat.mod_self]
      rw [e, this]
      simp [List.getD_eq_getElem?_getD]
    · have : (j + 1) % (v.length + 1) = j % (v.length + 1) + 1 := by
        rw [Nat.add_mod, Nat.mod_eq_of_lt (show 1 < v.length + 1 by omega), Nat.mod_eq_of_lt (by omega)]
      rw [this]
      simp [List.getD_eq_getElem?_getD, List.getElem?_append_left (show j % (v.length + 1) < v.length by omega)]
theorem prim_roll {v : Wd} {c : Nat} (h : Prim (v ++ [c])) : Prim (c :: v) := by
  refine ⟨by simp, fun k h1 h2 h3 => ?_⟩
  obtain ⟨hd, hp⟩ := (rep_per h1 (by omega)).mp h3
  have hl : (v ++ [c]).length = (c :: v).length := by simp
  refine h.2 k h1 (by omega) ((rep_per h1 (by omega)).mpr ⟨by rw [hl]; exact hd, fun i _ => ?_⟩)
  have e : ∀ i, sgn [] (v ++ [c]) i = sgn [] (c :: v) (i + 1) := fun i => by
    have := sgn_roll [] v c (i + 1)
    rw [List.nil_append, sgn_ge (by simp)] at this
    simpa using this
  rw [e, e, show i + k + 1 = (i + 1) + k by omega]
  exact hp (i + 1) (by omega)
/-- the head rolled into the ring, by the head turned about -/
def rollR : List Nat → Wd → Wd × Wd
  | [], r => ([], r)
  | c :: t, r => if r.getLast? = some c then rollR t (c :: r.dropLast) else ((c :: t).reverse, r)
def roll (h r : Wd) : Wd × Wd := rollR h.reverse r
theorem roll_nil (r : Wd) : roll [] r = ([], r) := rfl
theorem roll_hit (u v : Wd) (c : Nat) : roll (u ++ [c]) (v ++ [c]) = roll u (c :: v) := by
  unfold roll
  rw [List.reverse_append, List.reverse_singleton, List.singleton_append, rollR, if_pos (by simp)]
  simp
theorem roll_no (u : Wd) (r : Wd) (c : Nat) (h : r.getLast? ≠ some c) : roll (u ++ [c]) r = (u ++ [c], r) := by
  unfold roll
  rw [List.reverse_append, List.reverse_singleton, List.singleton_append, rollR, if_neg h]
  simp
theorem roll_can : ∀ (t : List Nat) (r : Wd), Prim r → Can (roll t.reverse r).1 (roll t.reverse r).2 ∧ (∀ i, sgn (roll t.reverse r).1 (roll t.reverse r).2 i = sgn t.reverse r i) ∧ (roll t.reverse r).1.length ≤ t.length ∧ (roll t.reverse r).2.length = r.length
  | [], r, h => by
    rw [List.reverse_nil, roll_nil]
    exact ⟨⟨h, fun u c v e => by have := e.1; simp at this⟩, fun _ => rfl, by simp, rfl⟩
  | c :: t, r, h => by
    rw [List.reverse_cons]
    by_cases hc : r.getLast? = some c
    · obtain ⟨v, rfl⟩ : ∃ v, r = v ++ [c] := ⟨r.dropLast, by
        rcases List.eq_nil_or_concat r with z | ⟨w, d, z⟩
        · rw [z] at hc
          simp at hc
        · rw [List.concat_eq_append] at z
          rw [z] at hc ⊢
          have : d = c := by simpa using hc
          rw [this]
          simp⟩
      rw [roll_hit]
      obtain ⟨h1, h2, h3, h4⟩ := roll_can t (c :: v) (prim_roll h)
      refine ⟨h1, fun i => ?_, by simp; omega, by rw [h4]; simp⟩
      rw [h2, sgn_roll]
    · rw [roll_no _ _ _ hc]
      refine ⟨⟨h, fun u d v e => ?_⟩, fun _ => rfl, by simp, rfl⟩
      have e1 := (List.append_inj' e.1 rfl).2
      have : c = d := by simpa using e1
      subst this
      have e2 : r = v ++ [c] := e.2
      rw [e2] at hc
      simp at hc
/-- the shortest ring of a ring -/
noncomputable def short (r : Wd) : Wd := if h : 0 < r.length then r.take (Classical.choose (exists_min r h)) else r
theorem short_eq {r : Wd} {k : Nat} (h : Min r k) : short r = r.take k := by
  have h0 : 0 < r.length := Nat.lt_of_lt_of_le h.1 h.2.1
  unfold short
  rw [dif_pos h0, Min.uniq (Classical.choose_spec (exists_min r h0)) h]
theorem short_min {r : Wd} (h0 : 0 < r.length) : ∃ k, Min r k ∧ short r = r.take k := by
  obtain ⟨k, h⟩ := exists_min r h0
  exact ⟨k, h, short_eq h⟩
/-- the plain form of a row -/
noncomputable def can (h r : Wd) : Wd × Wd := roll h (short r)
theorem sgn_ring {h r s : Wd} (e : ∀ i, sgn [] r i = sgn [] s i) (i : Nat) : sgn h r i = sgn h s i := by
  by_cases c : i < h.length
  · rw [sgn_lt c, sgn_lt c]
  · rw [sgn_ge (h := h) (r := r) (by omega), sgn_ge (h := h) (r := s) (by omega), e]
theorem can_can (h r : Wd) (h0 : 0 < r.length) : Can (can h r).1 (can h r).2 ∧ (∀ i, sgn (can h r).1 (can h r).2 i = sgn h r i) ∧ (can h r).1.length ≤ h.length ∧ (can h r).2.length ≤ r.length := by
  obtain ⟨k, hk, e⟩ := short_min h0
  have hp := hk.prim
  have := roll_can h.reverse (r.take k) hp
  rw [List.reverse_reverse] at this
  unfold can
  rw [e]
  refine ⟨this.1, fun i => ?_, by simpa using this.2.2.1, by rw [this.2.2.2, List.length_take]; omega⟩
  rw [this.2.1]
  exact sgn_ring (sgn_take hk.1 hk.2.1 hk.2.2.1) i
theorem can_eq {h r h' r' : Wd} (h0 : 0 < r.length) (c : Can h' r') (e : ∀ i, sgn h' r' i = sgn h r i) : can h r = (h', r') := by
  obtain ⟨a, b, _, _⟩ := can_can h r h0
  obtain ⟨x, y⟩ := a.uniq c fun i => by rw [b, e]
  exact Prod.ext x y
theorem can_self {h r : Wd} (c : Can h r) : can h r = (h, r) := can_eq c.prim.1 c fun _ => rfl
theorem can_congr {h r h' r' : Wd} (h0 : 0 < r.length) (h0' : 0 < r'.length) (e : ∀ i, sgn h r i = sgn h' r' i) : can h r = can h' r' := by
  obtain ⟨a, b, _, _⟩ := can_can h' r' h0'
  exact can_eq h0 a fun i => (b i).trans (e i).symm
end Qm
namespace Qd
open PySem PySem.Spec L2 Qm
def now1 : Option (Option Sl) → Bool
  | some (some (.sh, _)) => true
  | some none => true
  | none => true
  | _ => false
theorem now_nil (e : En) : nonOw e [] = true := id rfl
theorem now_cons (e : En) (v : Nat) (vs : List Nat) : nonOw e (v :: vs) = (now1 e[v]? && nonOw e vs) := by
  unfold nonOw
  rw [List.all_cons]
  congr 1
theorem now1_sh (d : D) : now1 (some (some (.sh, d))) = true := id rfl
theorem now1_none : now1 (some none) = true := id rfl
theorem now1_of {x : Option Sl} (h : Lw.Sh x) : now1 (some x) = true := by
  rcases h with rfl | ⟨d, rfl⟩ <;> rfl
def bsV (bs : Bs) (vs : List Nat) : Bool := bs.all fun b => decide (b.1 ∉ vs)
theorem bsV_nil (vs : List Nat) : bsV [] vs = true := id rfl
def nin (i : Nat) : List Nat → Bool
  | [] => true
  | v :: vs => i != v && nin i vs
theorem nin_nil (i : Nat) : nin i [] = true := id rfl
theorem nin_cons (i v : Nat) (vs : List Nat) : nin i (v :: vs) = (i != v && nin i vs) := id rfl
theorem nin_eq (i : Nat) : ∀ vs, decide (i ∉ vs) = nin i vs
  | [] => by simp [nin]
  | v :: vs => by
    rw [nin_cons, ← nin_eq i vs]
    by_cases h : i = v
    · subst h
      simp
    · simp [h]
theorem bsV_cons (i : Nat) (d : D) (bs : Bs) (vs : List Nat) : bsV ((i, d) :: bs) vs = (nin i vs && bsV bs vs) := by
  rw [← nin_eq]
  rfl
def lcc (vs : List Nat) (pt : FG) (c f : FE) (items : List D) (bs : Bs) (e : En) (b : Bool) : Option (D × En) := if b then lc2 vs e (lcL bs vs pt c f items (wipeE e vs) []) else none
theorem lc1_go (vs : List Nat) (pt : FG) (c f : FE) (items : List D) (bs : Bs) (e : En) : lc1 vs pt c f (items, bs, e) = lcc vs pt c f items bs e (nonOw e vs && bsV bs vs) := by
  unfold lc1 lcc bsV
  by_cases h : nonOw e vs = true ∧ bs.all (fun b => decide (b.1 ∉ vs)) = true
  · rw [if_pos h, if_pos (by rw [h.1, h.2]; rfl)]
  · rw [if_neg h, if_neg (fun z => h (Bool.and_eq_true_iff.mp z))]
theorem lcc_eq (vs : List Nat) (pt : FG) (c f : FE) (items : List D) (bs : Bs) (e : En) : lcc vs pt c f items bs e true = lc2 vs e (lcL bs vs pt c f items (wipeE e vs) []) := id rfl
def dcc (vs : List Nat) (pt : FG) (c fk fv : FE) (items : List D) (bs : Bs) (e : En) (b : Bool) : Option (D × En) := if b then dc2 vs e (dcL bs vs pt c fk fv items (wipeE e vs) []) else none
theorem dc1_go (vs : List Nat) (pt : FG) (c fk fv : FE) (items : List D) (bs : Bs) (e : En) : dc1 vs pt c fk fv (items, bs, e) = dcc vs pt c fk fv items bs e (nonOw e vs && bsV bs vs) := by
  unfold dc1 dcc bsV
  by_cases h : nonOw e vs = true ∧ bs.all (fun b => decide (b.1 ∉ vs)) = true
  · rw [if_pos h, if_pos (by rw [h.1, h.2]; rfl)]
  · rw [if_neg h, if_neg (fun z => h (Bool.and_eq_true_iff.mp z))]
theorem dcc_eq (vs : List Nat) (pt : FG) (c fk fv : FE) (items : List D) (bs : Bs) (e : En) : dcc vs pt c fk fv items bs e true = dc2 vs e (dcL bs vs pt c fk fv items (wipeE e vs) []) := id rfl
def endD (h r : Wd) : D := .obj "Endless" [("begun", .str h), ("round", .str r)]
theorem fld_b (h r : Wd) : fldD "Endless" "begun" (endD h r) = some (.str h) := by rfl
theorem fld_r (h r : Wd) : fldD "Endless" "round" (endD h r) = some (.str r) := by rfl
theorem set_b0 (h : Wd) : setFD "Endless" "begun" (.str h) (.obj "Endless" []) = some (.obj "Endless" [("begun", .str h)]) := by rfl
theorem set_r0 (h r : Wd) : setFD "Endless" "round" (.str r) (.obj "Endless" [("begun", .str h)]) = some (endD h r) := by rfl
theorem set_b1 (h r h' : Wd) : setFD "Endless" "begun" (.str h') (endD h r) = some (endD h' r) := by rfl
theorem set_r1 (h r r' : Wd) : setFD "Endless" "round" (.str r') (endD h r) = some (endD h r') := by rfl
theorem isC_end (h r : Wd) : isC "Endless" (endD h r) = true := by rfl
theorem hasM_settle0 : hasM "Endless" "settle" (.obj "Endless" []) = true := by rfl
theorem hasM_settle (h r : Wd) : hasM "Endless" "settle" (endD h r) = true := by rfl
theorem hasM_head (h r : Wd) : hasM "Endless" "head" (endD h r) = true := by rfl
theorem hasM_ring (h r : Wd) : hasM "Endless" "ring" (endD h r) = true := by rfl
theorem hasM_first (h r : Wd) : hasM "Endless" "first" (endD h r) = true := by rfl
theorem hasM_signs (h r : Wd) : hasM "Endless" "signs" (endD h r) = true := by rfl
theorem hasM_later (h r : Wd) : hasM "Endless" "later" (endD h r) = true := by rfl
theorem hasM_behind (h r : Wd) : hasM "Endless" "behind" (endD h r) = true := by rfl
theorem hasM_below (h r : Wd) : hasM "Endless" "below" (endD h r) = true := by rfl
theorem hasM_under (h r : Wd) : hasM "Endless" "under" (endD h r) = true := by rfl
theorem hasM_begins (h r : Wd) : hasM "Endless" "begins" (endD h r) = true := by rfl
theorem hasM_starts (h r : Wd) : hasM "Endless" "starts" (endD h r) = true := by rfl
theorem hasM_before (h r : Wd) : hasM "Endless" "before" (endD h r) = true := by rfl
/-- the order of rows -/
noncomputable def ltR (x y : Nat → Nat) : Bool := @decide (Lt x y) (Classical.propDecidable _)
theorem ltR_iff {x y : Nat → Nat} : ltR x y = true ↔ Lt x y := by
  unfold ltR
  exact @decide_eq_true_iff _ (Classical.propDecidable _)
/-- noughts and ones alone -/
def bits (x : Wd) : Bool := x.all fun c => decide (c ∈ [48, 49])
theorem bits_iff {x : Wd} : bits x = true ↔ Bin x := by
  unfold bits Bin
  rw [List.all_eq_true]
  constructor
  · intro h c hc
    have := of_decide_eq_true (h c hc)
    simpa using this
  · intro h c hc
    have := h c hc
    exact decide_eq_true (by simpa using this)
end Qd
namespace Lw
open PySem PySem.Spec L2 Qd Qm
local macro_rules | `(tactic| walk_at "ev") => `(tactic| simp only [eVar_eq, eVar_k1, eK_eq, oS_eq, oS_k1, oE_eq, oE_k1, fetch_d, fetch_s, fetch_k1, eOp2_eq, op2k1_eq, op2k2_eq, op2k3_eq, op2k4_eq, pr_some, aNil_eq, aC2_eq, aCons_eq, aC1_eq, fetchs_nil, fts2_eq, fetchs_cons, fts1_eq, eA_eq, eA1_eq, eA2_eq, allD_nil, allD_cons, eDisp_eq, eD1_eq, eD2_0, eD2_1, eD2_2, eD2_3, eD2_4, eD2_5, eD2_6, pNo_eq, pAt_eq, pAt1_eq, eSl_eq, sl1_eq, sl2_eq, sl3_eq, sl4_eq, eAnd_eq, and1_eq, eOr_eq, or1_eq, eNot_eq, not1_eq, eIf_eq, if1_eq, eNeg_eq, neg1_eq, eM_eq, m0_eq, m1_str, m1_lst, m2_eq, m3_eq, m4_eq, mu4_eq, mu3_ow, mu3_pn, mu2_eq, mu1_eq, mu0_eq, eMut_eq, sSeq_eq, seq1_nx, seq1_bk, seq1_ct, seq1_rt, sNil_eq, sBk_eq, sCt_eq, sRetN_eq, sE_eq, se1_eq, sRet_eq, sRetF_eq, sret1_eq, sRetOw_eq, sRetOw1_eq, sIf_eq, sif1_eq, sg2_eq, sG_eq, sg1_eq, okSet_eq, okk_none, okk_sh, okk_ow, gN_eq, sOw_eq, ow1_eq, sFz_eq, fz1_ow, fz1_sh, fz1_pn, fz1_no, stl3_eq, stl2_ow, stl2_pn, stl1_eq, sSetL_eq, sFor_eq, sfor1_eq, sWhile_eq, iL_eq, il1_eq, il2_eq, bOf_d, bOf_s, iR1_eq, ir1_eq, fn1_rt, fn1_nx, eCall_eq, eCallF_eq, cv1_eq, cv2_1, cv2_2, cv2_3, cv3_eq, cvE_eq, cvF_eq, eCallB_eq, cb0_eq, cb1_1, cb1_2, cb1_3, cb2_bl, cb2_int, cb2_str, eCallP_eq, eCallPF_eq, cp0_eq, cp1_eq, cp2_eq, cp3_ow0, cp3_ow1, cp3_ow2, cp3_pn0, cp3_pn1, cp3_pn2, cp4_eq, eLc_eq, lc2_eq, eDc_eq, dc2_eq, bnd_some, mp_some, gt0, gtS, st0, stS, if_true, if_false, if_pos, Bool.true_eq_false, Bool.false_eq_true, stl0_eq2, stk_eq, ix0, ix1, ix2, ix3, ix4, ixT0, ixT1, ixT2, addD_i, subD_i, ltD_i, ltD_s, leD_i, gtD_i, gtD_s, geD_i, powD_18, lenD_l, lenD_t, lenD_d, eqD_s, neD_s, eqD_i, neD_i, decide_eq_true_eq, ↓reduceIte, decide_true, decide_false, not_true_eq_false, not_false_eq_true, Bool.not_true, Bool.not_false, List.length_map, List.length_cons, List.length_nil, Int.reduceLT, Int.reduceLE, Int.reduceNeg, and_self, and_true, true_and, mulD_r, mulD_l, modD_i, fdivD_i, Int.reduceAdd, Nat.reduceAdd, ixN50, ixN51, ixN52, ixN53, ixN54, slL_eq, slL_scr, listD_l, cut_up, cut_last, cut_all, eqD_s, neD_s, slS_eq, inD_ls, inD_keys, wipe0, wipe1, rest0, rest1, gt0, gd_some, gd_none, decide_not, Bool.not_eq_true', decide_eq_false_iff_not, Classical.not_not, gPop_eq, allB_eq, List.nil_append, ↓reduceIte, pk4_eq, pk3_ow, pk3_pn, pk2_eq, pk1_s, pk1_i, pk0_eq, ePopK_eq, sk3_eq, sk2_s, sk2_i, sk1_eq, sk0_eq, sSetK_eq, listD_keys, neD_nil, dropD_keys, eq_self, isi_non_bool, isi_non_int, isi_non_str, isi_non_tuple, isi_non_list, isi_bl_bool, isi_bl_int, isi_bl_str, isi_bl_tuple, isi_bl_list, isi_int_bool, isi_int_int, isi_int_str, isi_int_tuple, isi_int_list, isi_str_bool, isi_str_int, isi_str_str, isi_str_tuple, isi_str_list, isi_tup_bool, isi_tup_int, isi_tup_str, isi_tup_tuple, isi_tup_list, isi_lst_bool, isi_lst_int, isi_lst_str, isi_lst_tuple, isi_lst_list, isN_non, isN_bl, isN_int, isN_str, isN_tup, isN_lst, eqD_b, neD_b, startsD_eq, anyB_map, allB_map, sumD_map, maxD1_map, notInD_ls, notInD_keys, gsNil_eq, gsCons_eq, gsk_eq, gT2_eq, gT3_eq, iZ_eq, iz0_eq, iz1_eq, iz2_eq, sPin_eq, pin0_ow, pin0_sh, unpin_eq, unp_pn, pin1_nx, pin1_rt, cut_to, cut_from1])
local macro_rules | `(tactic| walk_at "eh") => `(tactic| simp only [eVar_eq, eVar_k1, eK_eq, oS_eq, oS_k1, oE_eq, oE_k1, fetch_d, fetch_s, fetch_k1, eOp2_eq, op2k1_eq, op2k2_eq, op2k3_eq, op2k4_eq, pr_some, aNil_eq, aC2_eq, aCons_eq, aC1_eq, fetchs_nil, fts2_eq, fetchs_cons, fts1_eq, eA_eq, eA1_eq, eA2_eq, allD_nil, allD_cons, eDisp_eq, eD1_eq, eD2_0, eD2_1, eD2_2, eD2_3, eD2_4, eD2_5, eD2_6, pNo_eq, pAt_eq, pAt1_eq, eSl_eq, sl1_eq, sl2_eq, sl3_eq, sl4_eq, eAnd_eq, and1_eq, eOr_eq, or1_eq, eNot_eq, not1_eq, eIf_eq, if1_eq, eNeg_eq, neg1_eq, eM_eq, m0_eq, m1_str, m1_lst, m2_eq, m3_eq, m4_eq, mu4_eq, mu3_ow, mu3_pn, mu2_eq, mu1_eq, mu0_eq, eMut_eq, sSeq_eq, seq1_nx, seq1_bk, seq1_ct, seq1_rt, sNil_eq, sBk_eq, sCt_eq, sRetN_eq, sE_eq, se1_eq, sRet_eq, sRetF_eq, sret1_eq, sRetOw_eq, sRetOw1_eq, sIf_eq, sif1_eq, sg2_eq, sG_eq, sg1_eq, okSet_eq, okk_none, okk_sh, okk_ow, gN_eq, sOw_eq, ow1_eq, sFz_eq, fz1_ow, fz1_sh, fz1_pn, fz1_no, stl3_eq, stl2_ow, stl2_pn, stl1_eq, sSetL_eq, sFor_eq, sfor1_eq, sWhile_eq, iL_eq, il1_eq, il2_eq, bOf_d, bOf_s, iR1_eq, ir1_eq, fn1_rt, fn1_nx, eCall_eq, eCallF_eq, cv1_eq, cv2_1, cv2_2, cv2_3, cv3_eq, cvE_eq, cvF_eq, eCallB_eq, cb0_eq, cb1_1, cb1_2, cb1_3, cb2_bl, cb2_int, cb2_str, eCallP_eq, eCallPF_eq, cp0_eq, cp1_eq, cp2_eq, cp3_ow0, cp3_ow1, cp3_ow2, cp3_pn0, cp3_pn1, cp3_pn2, cp4_eq, eLc_eq, lc2_eq, eDc_eq, dc2_eq, bnd_some, mp_some, gt0, gtS, st0, stS, if_true, if_false, if_pos, Bool.true_eq_false, Bool.false_eq_true, stl0_eq2, stk_eq, ix0, ix1, ix2, ix3, ix4, ixT0, ixT1, ixT2, addD_i, subD_i, ltD_i, ltD_s, leD_i, gtD_i, gtD_s, geD_i, powD_18, lenD_l, lenD_t, lenD_d, eqD_s, neD_s, eqD_i, neD_i, decide_eq_true_eq, ↓reduceIte, decide_true, decide_false, not_true_eq_false, not_false_eq_true, Bool.not_true, Bool.not_false, List.length_map, List.length_cons, List.length_nil, Int.reduceLT, Int.reduceLE, Int.reduceNeg, and_self, and_true, true_and, mulD_r, mulD_l, modD_i, fdivD_i, Int.reduceAdd, Nat.reduceAdd, ixN50, ixN51, ixN52, ixN53, ixN54, slL_eq, slL_scr, listD_l, cut_up, cut_last, cut_all, eqD_s, neD_s, slS_eq, inD_ls, inD_keys, wipe0, wipe1, rest0, rest1, gt0, gd_some, gd_none, decide_not, Bool.not_eq_true', decide_eq_false_iff_not, Classical.not_not, gPop_eq, allB_eq, List.nil_append, ↓reduceIte, pk4_eq, pk3_ow, pk3_pn, pk2_eq, pk1_s, pk1_i, pk0_eq, ePopK_eq, sk3_eq, sk2_s, sk2_i, sk1_eq, sk0_eq, sSetK_eq, listD_keys, neD_nil, dropD_keys, eq_self, isi_non_bool, isi_non_int, isi_non_str, isi_non_tuple, isi_non_list, isi_bl_bool, isi_bl_int, isi_bl_str, isi_bl_tuple, isi_bl_list, isi_int_bool, isi_int_int, isi_int_str, isi_int_tuple, isi_int_list, isi_str_bool, isi_str_int, isi_str_str, isi_str_tuple, isi_str_list, isi_tup_bool, isi_tup_int, isi_tup_str, isi_tup_tuple, isi_tup_list, isi_lst_bool, isi_lst_int, isi_lst_str, isi_lst_tuple, isi_lst_list, isN_non, isN_bl, isN_int, isN_str, isN_tup, isN_lst, eqD_b, neD_b, startsD_eq, anyB_map, allB_map, sumD_map, maxD1_map, notInD_ls, notInD_keys, gsNil_eq, gsCons_eq, gsk_eq, gT2_eq, gT3_eq, iZ_eq, iz0_eq, iz1_eq, iz2_eq, sPin_eq, pin0_ow, pin0_sh, unpin_eq, unp_pn, pin1_nx, pin1_rt, cut_to, cut_from1, *])
structure Box where
  cells : List Int
  pos : Nat
  rest : Int
  seed : Int
  cnt : Int
def boxD (b : Box) : D := .lst [.lst (b.cells.map D.int), .int b.pos, .int b.rest, .int b.seed, .int b.cnt]
structure Box.Ok (b : Box) : Prop where
  pos : b.pos ≤ b.cells.length
  s0 : 0 ≤ b.seed
  s1 : b.seed < 2147483647
def draw1 (b : Box) : Box := if b.rest < 1 ∧ (b.pos : Int) < b.cells.length then
    (if b.cells.getD b.pos 0 ≥ 10 ^ 18 then { b with pos := b.pos + 1, rest := b.cells.getD b.pos 0 } else { b with pos := b.pos + 1, seed := (b.seed + b.cells.getD b.pos 0 % 2147483629 * 69621) % 2147483647 })
  else b
def base (b : Box) : Int := (b.seed + (b.cnt + 1) * 7919) % 2147483647
def seed2 (b : Box) : Int := (base b * base b % 2147483629 * (base b % 65521 + 3) + 40692 * base b + 1013) % 2147483647
def draw2 (b : Box) (m : Int) : Int × Box := if b.rest > 0 then (b.rest % m, { b with rest := b.rest / m }) else ((seed2 b / 61 + seed2 b % 8191 * 29) % m, { b with seed := seed2 b, cnt := b.cnt + 1 })
def draw (b : Box) (m : Int) : Int × Box := draw2 (draw1 b) m
theorem seed2_lo (b : Box) : 0 ≤ seed2 b := Int.emod_nonneg _ (by decide)
theorem seed2_hi (b : Box) : seed2 b < 2147483647 := Int.emod_lt_of_pos _ (by decide)
theorem base_lo (b : Box) : 0 ≤ base b := Int.emod_nonneg _ (by decide)
theorem base_hi (b : Box) : base b < 2147483647 := Int.emod_lt_of_pos _ (by decide)
/-- the second half of a draw, from any box -/
theorem draw_tail (b : Box) (m : Int) (h0 : 0 < m) (h1 : m < 1073741824) (x : Option Sl) : fn1 [.pn, .sh] ((sSeq (sIf (eOp2 gtD (oE (eOp2 ixD (oS 0) (oE (eK (.int 2))))) (oE (eK (.int 0)))) (sSeq (sG (eOp2 modD (oE (eOp2 ixD (oS 0) (oE (eK (.int 2))))) (oS 1)) (gN 4))
    (sSeq (sSetL 0 (eK (.int 2)) (eOp2 fdivD (oE (eOp2 ixD (oS 0) (oE (eK (.int 2))))) (oS 1)))
    (sRet (eVar 4)))) sNil)
    (sSeq (sSetL 0 (eK (.int 4)) (eOp2 addD (oE (eOp2 ixD (oS 0) (oE (eK (.int 4))))) (oE (eK (.int 1)))))
    (sSeq (sG (eOp2 modD (oE (eOp2 addD (oE (eOp2 ixD (oS 0) (oE (eK (.int 3))))) (oE (eOp2 mulD (oE (eOp2 ixD (oS 0) (oE (eK (.int 4))))) (oE (eK (.int 7919))))))) (oE (eK (.int 2147483647)))) (gN 2))
    (sSeq (sSetL 0 (eK (.int 3)) (eOp2 modD (oE (eOp2 addD (oE (eOp2 addD (oE (eOp2 mulD (oE (eOp2 modD (oE (eOp2 mulD (oS 2) (oS 2))) (oE (eK (.int 2147483629))))) (oE (eOp2 addD (oE (eOp2 modD (oS 2) (oE (eK (.int 65521))))) (oE (eK (.int 3))))))) (oE (eOp2 mulD (oE (eK (.int 40692))) (oS 2))))) (oE (eK (.int 1013))))) (oE (eK (.int 2147483647)))))
    (sRet (eOp2 modD (oE (eOp2 addD (oE (eOp2 fdivD (oE (eOp2 ixD (oS 0) (oE (eK (.int 3))))) (oE (eK (.int 61))))) (oE (eOp2 mulD (oE (eOp2 modD (oE (eOp2 ixD (oS 0) (oE (eK (.int 3))))) (oE (eK (.int 8191))))) (oE (eK (.int 29))))))) (oS 1))))))) [some (.pn, boxD b), some (.sh, .int m), none, x.map fun y => (.sh, y.2), none]) = some (.ok false (.int (draw2 b m).1) [boxD (draw2 b m).2, .non]) := by
  have e1 : base b = (b.seed + (b.cnt + 1) * 7919) % 2147483647 := rfl
  have e2 : seed2 b = (base b * base b % 2147483629 * (base b % 65521 + 3) + 40692 * base b + 1013) % 2147483647 := rfl
  have b1 := base_lo b
  have b2 := base_hi b
  have b3 := Int.emod_nonneg (base b) (show (65521:Int) ≠ 0 by decide)
  have b4 := Int.emod_lt_of_pos (base b) (show (0:Int) < 65521 by decide)
  by_cases c : 0 < b.rest
  · have e : draw2 b m = (b.rest % m, { b with rest := b.rest / m }) := if_pos c
    rw [e]
    unfold boxD
    clear e e1 e2
    walk_at "eh"
    rfl
  · have e : draw2 b m = ((seed2 b / 61 + seed2 b % 8191 * 29) % m, { b with seed := seed2 b, cnt := b.cnt + 1 }) := if_neg c
    rw [e]
    have q1 : mulD (.int (base b)) (.int (base b)) = some (.int (base b * base b)) := mulD_r _ _ ⟨by omega, by omega⟩
    have q2 : mulD (.int (base b * base b % 2147483629)) (.int (base b % 65521 + 3)) = some (.int (base b * base b % 2147483629 * (base b % 65521 + 3))) := mulD_r _ _ ⟨by omega, by omega⟩
    clear e b1 b2 b3 b4
    unfold boxD
    rw [e2]
    generalize base b = z at *
    subst e1
    walk_at "eh"
    rfl
theorem draw_run (b : Box) (m : Int) (h0 : 0 < m) (h1 : m < 1073741824) : fnF [.pn, .sh] 3 F__law_draw [boxD b, .int m] = some (.ok false (.int (draw b m).1) [boxD (draw b m).2, .non]) := by
  rw [fnF_eq _ _ _ _ rfl]
  show fn1 [.pn, .sh] (F__law_draw [some (.pn, boxD b), some (.sh, .int m), none, none, none]) = _
  have t := draw_tail (draw1 b) m h0 h1
  have tn := t none
  have ts := fun d => t (some (.sh, d))
  simp only [Option.map_some, Option.map_none] at tn ts
  clear t
  unfold F__law_draw draw
  generalize hT : sSeq (sIf (eOp2 gtD (oE (eOp2 ixD (oS 0) (oE (eK (.int 2))))) (oE (eK (.int 0)))) _ _) _ = T at *
  generalize hR : (Res.ok false (D.int (draw2 (draw1 b) m).1) [boxD (draw2 (draw1 b) m).2, .non]) = R at *
  clear hT hR
  by_cases c1 : b.rest < 1
  · by_cases c2 : (b.pos : Int) < b.cells.length
    · have hc : (b.cells.map D.int)[b.pos]? = some (.int (b.cells.getD b.pos 0)) := by
        have : b.pos < b.cells.length := by omega
        simp [List.getElem?_eq_getElem this, List.getD_eq_getElem?_getD]
      have hd := ixD_l hc
      by_cases c3 : 1000000000000000000 ≤ b.cells.getD b.pos 0
      · have e : draw1 b = { b with pos := b.pos + 1, rest := b.cells.getD b.pos 0 } := by
          unfold draw1
          rw [if_pos ⟨c1, c2⟩, if_pos (by exact c3)]
        rw [e] at ts
        unfold boxD at *
        clear e tn
        simp only [Int.natCast_add, Int.cast_ofNat_Int] at ts
        walk_at "eh"
      · have e : draw1 b = { b with pos := b.pos + 1, seed := (b.seed + b.cells.getD b.pos 0 % 2147483629 * 69621) % 2147483647 } := by
          unfold draw1
          rw [if_pos ⟨c1, c2⟩, if_neg (by exact c3)]
        rw [e] at ts
        unfold boxD at *
        clear e tn
        simp only [Int.natCast_add, Int.cast_ofNat_Int] at ts
        walk_at "eh"
    · have e : draw1 b = b := if_neg fun z => c2 z.2
      rw [e] at tn
      unfold boxD at *
      clear e ts
      walk_at "eh"
  · have e : draw1 b = b := if_neg fun z => c1 z.1
    rw [e] at tn
    unfold boxD at *
    clear e ts
    walk_at "eh"
end Lw
namespace Lw
open PySem PySem.Spec L2 Qd Qm
local macro_rules | `(tactic| walk_at "ev") => `(tactic| simp only [eVar_eq, eVar_k1, eK_eq, oS_eq, oS_k1, oE_eq, oE_k1, fetch_d, fetch_s, fetch_k1, eOp2_eq, op2k1_eq, op2k2_eq, op2k3_eq, op2k4_eq, pr_some, aNil_eq, aC2_eq, aCons_eq, aC1_eq, fetchs_nil, fts2_eq, fetchs_cons, fts1_eq, eA_eq, eA1_eq, eA2_eq, allD_nil, allD_cons, eDisp_eq, eD1_eq, eD2_0, eD2_1, eD2_2, eD2_3, eD2_4, eD2_5, eD2_6, pNo_eq, pAt_eq, pAt1_eq, eSl_eq, sl1_eq, sl2_eq, sl3_eq, sl4_eq, eAnd_eq, and1_eq, eOr_eq, or1_eq, eNot_eq, not1_eq, eIf_eq, if1_eq, eNeg_eq, neg1_eq, eM_eq, m0_eq, m1_str, m1_lst, m2_eq, m3_eq, m4_eq, mu4_eq, mu3_ow, mu3_pn, mu2_eq, mu1_eq, mu0_eq, eMut_eq, sSeq_eq, seq1_nx, seq1_bk, seq1_ct, seq1_rt, sNil_eq, sBk_eq, sCt_eq, sRetN_eq, sE_eq, se1_eq, sRet_eq, sRetF_eq, sret1_eq, sRetOw_eq, sRetOw1_eq, sIf_eq, sif1_eq, sg2_eq, sG_eq, sg1_eq, okSet_eq, okk_none, okk_sh, okk_ow, gN_eq, sOw_eq, ow1_eq, sFz_eq, fz1_ow, fz1_sh, fz1_pn, fz1_no, stl3_eq, stl2_ow, stl2_pn, stl1_eq, sSetL_eq, sFor_eq, sfor1_eq, sWhile_eq, iL_eq, il1_eq, il2_eq, bOf_d, bOf_s, iR1_eq, ir1_eq, fn1_rt, fn1_nx, eCall_eq, eCallF_eq, cv1_eq, cv2_1, cv2_2, cv2_3, cv3_eq, cvE_eq, cvF_eq, eCallB_eq, cb0_eq, cb1_1, cb1_2, cb1_3, cb2_bl, cb2_int, cb2_str, eCallP_eq, eCallPF_eq, cp0_eq, cp1_eq, cp2_eq, cp3_ow0, cp3_ow1, cp3_ow2, cp3_pn0, cp3_pn1, cp3_pn2, cp4_eq, eLc_eq, lc2_eq, eDc_eq, dc2_eq, bnd_some, mp_some, gt0, gtS, st0, stS, if_true, if_false, if_pos, Bool.true_eq_false, Bool.false_eq_true, stl0_eq2, stk_eq, ix0, ix1, ix2, ix3, ix4, ixT0, ixT1, ixT2, addD_i, subD_i, ltD_i, ltD_s, leD_i, gtD_i, gtD_s, geD_i, powD_18, lenD_l, lenD_t, lenD_d, eqD_s, neD_s, eqD_i, neD_i, decide_eq_true_eq, ↓reduceIte, decide_true, decide_false, not_true_eq_false, not_false_eq_true, Bool.not_true, Bool.not_false, List.length_map, List.length_cons, List.length_nil, Int.reduceLT, Int.reduceLE, Int.reduceNeg, and_self, and_true, true_and, mulD_r, mulD_l, modD_i, fdivD_i, Int.reduceAdd, Nat.reduceAdd, ixN50, ixN51, ixN52, ixN53, ixN54, slL_eq, slL_scr, listD_l, cut_up, cut_last, cut_all, eqD_s, neD_s, slS_eq, inD_ls, inD_keys, wipe0, wipe1, rest0, rest1, gt0, gd_some, gd_none, decide_not, Bool.not_eq_true', decide_eq_false_iff_not, Classical.not_not, gPop_eq, allB_eq, List.nil_append, ↓reduceIte, pk4_eq, pk3_ow, pk3_pn, pk2_eq, pk1_s, pk1_i, pk0_eq, ePopK_eq, sk3_eq, sk2_s, sk2_i, sk1_eq, sk0_eq, sSetK_eq, listD_keys, neD_nil, dropD_keys, eq_self, isi_non_bool, isi_non_int, isi_non_str, isi_non_tuple, isi_non_list, isi_bl_bool, isi_bl_int, isi_bl_str, isi_bl_tuple, isi_bl_list, isi_int_bool, isi_int_int, isi_int_str, isi_int_tuple, isi_int_list, isi_str_bool, isi_str_int, isi_str_str, isi_str_tuple, isi_str_list, isi_tup_bool, isi_tup_int, isi_tup_str, isi_tup_tuple, isi_tup_list, isi_lst_bool, isi_lst_int, isi_lst_str, isi_lst_tuple, isi_lst_list, isN_non, isN_bl, isN_int, isN_str, isN_tup, isN_lst, eqD_b, neD_b, startsD_eq, anyB_map, allB_map, sumD_map, maxD1_map, notInD_ls, notInD_keys, gsNil_eq, gsCons_eq, gsk_eq, gT2_eq, gT3_eq, iZ_eq, iz0_eq, iz1_eq, iz2_eq, sPin_eq, pin0_ow, pin0_sh, unpin_eq, unp_pn, pin1_nx, pin1_rt, cut_to, cut_from1])
local macro_rules | `(tactic| walk_at "eh") => `(tactic| simp only [eVar_eq, eVar_k1, eK_eq, oS_eq, oS_k1, oE_eq, oE_k1, fetch_d, fetch_s, fetch_k1, eOp2_eq, op2k1_eq, op2k2_eq, op2k3_eq, op2k4_eq, pr_some, aNil_eq, aC2_eq, aCons_eq, aC1_eq, fetchs_nil, fts2_eq, fetchs_cons, fts1_eq, eA_eq, eA1_eq, eA2_eq, allD_nil, allD_cons, eDisp_eq, eD1_eq, eD2_0, eD2_1, eD2_2, eD2_3, eD2_4, eD2_5, eD2_6, pNo_eq, pAt_eq, pAt1_eq, eSl_eq, sl1_eq, sl2_eq, sl3_eq, sl4_eq, eAnd_eq, and1_eq, eOr_eq, or1_eq, eNot_eq, not1_eq, eIf_eq, if1_eq, eNeg_eq, neg1_eq, eM_eq, m0_eq, m1_str, m1_lst, m2_eq, m3_eq, m4_eq, mu4_eq, mu3_ow, mu3_pn, mu2_eq, mu1_eq, mu0_eq, eMut_eq, sSeq_eq, seq1_nx, seq1_bk, seq1_ct, seq1_rt, sNil_eq, sBk_eq, sCt_eq, sRetN_eq, sE_eq, se1_eq, sRet_eq, sRetF_eq, sret1_eq, sRetOw_eq, sRetOw1_eq, sIf_eq, sif1_eq, sg2_eq, sG_eq, sg1_eq, okSet_eq, okk_none, okk_sh, okk_ow, gN_eq, sOw_eq, ow1_eq, sFz_eq, fz1_ow, fz1_sh, fz1_pn, fz1_no, stl3_eq, stl2_ow, stl2_pn, stl1_eq, sSetL_eq, sFor_eq, sfor1_eq, sWhile_eq, iL_eq, il1_eq, il2_eq, bOf_d, bOf_s, iR1_eq, ir1_eq, fn1_rt, fn1_nx, eCall_eq, eCallF_eq, cv1_eq, cv2_1, cv2_2, cv2_3, cv3_eq, cvE_eq, cvF_eq, eCallB_eq, cb0_eq, cb1_1, cb1_2, cb1_3, cb2_bl, cb2_int, cb2_str, eCallP_eq, eCallPF_eq, cp0_eq, cp1_eq, cp2_eq, cp3_ow0, cp3_ow1, cp3_ow2, cp3_pn0, cp3_pn1, cp3_pn2, cp4_eq, eLc_eq, lc2_eq, eDc_eq, dc2_eq, bnd_some, mp_some, gt0, gtS, st0, stS, if_true, if_false, if_pos, Bool.true_eq_false, Bool.false_eq_true, stl0_eq2, stk_eq, ix0, ix1, ix2, ix3, ix4, ixT0, ixT1, ixT2, addD_i, subD_i, ltD_i, ltD_s, leD_i, gtD_i, gtD_s, geD_i, powD_18, lenD_l, lenD_t, lenD_d, eqD_s, neD_s, eqD_i, neD_i, decide_eq_true_eq, ↓reduceIte, decide_true, decide_false, not_true_eq_false, not_false_eq_true, Bool.not_true, Bool.not_false, List.length_map, List.length_cons, List.length_nil, Int.reduceLT, Int.reduceLE, Int.reduceNeg, and_self, and_true, true_and, mulD_r, mulD_l, modD_i, fdivD_i, Int.reduceAdd, Nat.reduceAdd, ixN50, ixN51, ixN52, ixN53, ixN54, slL_eq, slL_scr, listD_l, cut_up, cut_last, cut_all, eqD_s, neD_s, slS_eq, inD_ls, inD_keys, wipe0, wipe1, rest0, rest1, gt0, gd_some, gd_none, decide_not, Bool.not_eq_true', decide_eq_false_iff_not, Classical.not_not, gPop_eq, allB_eq, List.nil_append, ↓reduceIte, pk4_eq, pk3_ow, pk3_pn, pk2_eq, pk1_s, pk1_i, pk0_eq, ePopK_eq, sk3_eq, sk2_s, sk2_i, sk1_eq, sk0_eq, sSetK_eq, listD_keys, neD_nil, dropD_keys, eq_self, isi_non_bool, isi_non_int, isi_non_str, isi_non_tuple, isi_non_list, isi_bl_bool, isi_bl_int, isi_bl_str, isi_bl_tuple, isi_bl_list, isi_int_bool, isi_int_int, isi_int_str, isi_int_tuple, isi_int_list, isi_str_bool, isi_str_int, isi_str_str, isi_str_tuple, isi_str_list, isi_tup_bool, isi_tup_int, isi_tup_str, isi_tup_tuple, isi_tup_list, isi_lst_bool, isi_lst_int, isi_lst_str, isi_lst_tuple, isi_lst_list, isN_non, isN_bl, isN_int, isN_str, isN_tup, isN_lst, eqD_b, neD_b, startsD_eq, anyB_map, allB_map, sumD_map, maxD1_map, notInD_ls, notInD_keys, gsNil_eq, gsCons_eq, gsk_eq, gT2_eq, gT3_eq, iZ_eq, iz0_eq, iz1_eq, iz2_eq, sPin_eq, pin0_ow, pin0_sh, unpin_eq, unp_pn, pin1_nx, pin1_rt, cut_to, cut_from1, *])
theorem open_run (ns : List Int) : W (fnF [.sh] 2 F__law_open [.scr ns]) fun r => ∃ b, r = .ok true (boxD b) [.non] := by
  rw [fnF_eq _ _ _ _ rfl]
  show W (fn1 [.sh] (F__law_open [some (.sh, .scr ns), none, none])) _
  unfold F__law_open
  walk_at "ev"
  have e63 : cut ns none (some 63) = ns.take 63 := cut_to ns 63
  rw [e63]
  refine W.fn (P := fun o => ∃ seed x, o = .rt true (boxD ⟨ns.take 63, 0, 0, seed, 0⟩) [some (.sh, .scr ns), some (.sh, .int seed), x]) (W.bind (P := fun o => ∃ seed x, o = .nx [some (.sh, .scr ns), some (.sh, .int seed), x]) (W.forL (fun items e => ∃ (is : List Int) (seed : Int) (x : Option Sl), items = is.map D.int ∧ e = [some (.sh, .scr ns), some (.sh, .int seed), x] ∧ Sh x) ?_ ?_ _ _ ⟨_, _, none, rfl, rfl, Sh.no⟩) ?_) ?_
  · rintro e ⟨is, seed, x, h1, rfl, h2⟩
    exact ⟨rfl, seed, x, rfl⟩
  · rintro d ds e ⟨is, seed, x, h1, rfl, h2⟩
    cases is with
    | nil => cases h1
    | cons i is =>
      cases h1
      refine ⟨rfl, [some (.sh, .scr ns), some (.sh, .int seed), some (.sh, .int i)], ?_, ?_⟩
      · have := h2.okk
        walk_at "eh"
      · walk_at "ev"
        exact W.ret ⟨is, _, _, rfl, rfl, Sh.sh _⟩
  · rintro o ⟨seed, x, rfl⟩
    walk_at "eh"
    exact W.ret ⟨seed, x, rfl⟩
  · rintro o ⟨seed, x, rfl⟩
    exact W.ret ⟨_, rfl⟩
end Lw
namespace Lw
open PySem PySem.Spec L2 Qd Qm
local macro_rules | `(tactic| walk_at "ev") => `(tactic| simp only [eVar_eq, eVar_k1, eK_eq, oS_eq, oS_k1, oE_eq, oE_k1, fetch_d, fetch_s, fetch_k1, eOp2_eq, op2k1_eq, op2k2_eq, op2k3_eq, op2k4_eq, pr_some, aNil_eq, aC2_eq, aCons_eq, aC1_eq, fetchs_nil, fts2_eq, fetchs_cons, fts1_eq, eA_eq, eA1_eq, eA2_eq, allD_nil, allD_cons, eDisp_eq, eD1_eq, eD2_0, eD2_1, eD2_2, eD2_3, eD2_4, eD2_5, eD2_6, pNo_eq, pAt_eq, pAt1_eq, eSl_eq, sl1_eq, sl2_eq, sl3_eq, sl4_eq, eAnd_eq, and1_eq, eOr_eq, or1_eq, eNot_eq, not1_eq, eIf_eq, if1_eq, eNeg_eq, neg1_eq, eM_eq, m0_eq, m1_str, m1_lst, m2_eq, m3_eq, m4_eq, mu4_eq, mu3_ow, mu3_pn, mu2_eq, mu1_eq, mu0_eq, eMut_eq, sSeq_eq, seq1_nx, seq1_bk, seq1_ct, seq1_rt, sNil_eq, sBk_eq, sCt_eq, sRetN_eq, sE_eq, se1_eq, sRet_eq, sRetF_eq, sret1_eq, sRetOw_eq, sRetOw1_eq, sIf_eq, sif1_eq, sg2_eq, sG_eq, sg1_eq, okSet_eq, okk_none, okk_sh, okk_ow, gN_eq, sOw_eq, ow1_eq, sFz_eq, fz1_ow, fz1_sh, fz1_pn, fz1_no, stl3_eq, stl2_ow, stl2_pn, stl1_eq, sSetL_eq, sFor_eq, sfor1_eq, sWhile_eq, iL_eq, il1_eq, il2_eq, bOf_d, bOf_s, iR1_eq, ir1_eq, fn1_rt, fn1_nx, eCall_eq, eCallF_eq, cv1_eq, cv2_1, cv2_2, cv2_3, cv3_eq, cvE_eq, cvF_eq, eCallB_eq, cb0_eq, cb1_1, cb1_2, cb1_3, cb2_bl, cb2_int, cb2_str, eCallP_eq, eCallPF_eq, cp0_eq, cp1_eq, cp2_eq, cp3_ow0, cp3_ow1, cp3_ow2, cp3_pn0, cp3_pn1, cp3_pn2, cp4_eq, eLc_eq, lc2_eq, eDc_eq, dc2_eq, bnd_some, mp_some, gt0, gtS, st0, stS, if_true, if_false, if_pos, Bool.true_eq_false, Bool.false_eq_true, stl0_eq2, stk_eq, ix0, ix1, ix2, ix3, ix4, ixT0, ixT1, ixT2, addD_i, subD_i, ltD_i, ltD_s, leD_i, gtD_i, gtD_s, geD_i, powD_18, lenD_l, lenD_t, lenD_d, eqD_s, neD_s, eqD_i, neD_i, decide_eq_true_eq, ↓reduceIte, decide_true, decide_false, not_true_eq_false, not_false_eq_true, Bool.not_true, Bool.not_false, List.length_map, List.length_cons, List.length_nil, Int.reduceLT, Int.reduceLE, Int.reduceNeg, and_self, and_true, true_and, mulD_r, mulD_l, modD_i, fdivD_i, Int.reduceAdd, Nat.reduceAdd, ixN50, ixN51, ixN52, ixN53, ixN54, slL_eq, slL_scr, listD_l, cut_up, cut_last, cut_all, eqD_s, neD_s, slS_eq, inD_ls, inD_keys, wipe0, wipe1, rest0, rest1, gt0, gd_some, gd_none, decide_not, Bool.not_eq_true', decide_eq_false_iff_not, Classical.not_not, gPop_eq, allB_eq, List.nil_append, ↓reduceIte, pk4_eq, pk3_ow, pk3_pn, pk2_eq, pk1_s, pk1_i, pk0_eq, ePopK_eq, sk3_eq, sk2_s, sk2_i, sk1_eq, sk0_eq, sSetK_eq, listD_keys, neD_nil, dropD_keys, eq_self, isi_non_bool, isi_non_int, isi_non_str, isi_non_tuple, isi_non_list, isi_bl_bool, isi_bl_int, isi_bl_str, isi_bl_tuple, isi_bl_list, isi_int_bool, isi_int_int, isi_int_str, isi_int_tuple, isi_int_list, isi_str_bool, isi_str_int, isi_str_str, isi_str_tuple, isi_str_list, isi_tup_bool, isi_tup_int, isi_tup_str, isi_tup_tuple, isi_tup_list, isi_lst_bool, isi_lst_int, isi_lst_str, isi_lst_tuple, isi_lst_list, isN_non, isN_bl, isN_int, isN_str, isN_tup, isN_lst, eqD_b, neD_b, startsD_eq, anyB_map, allB_map, sumD_map, maxD1_map, notInD_ls, notInD_keys, gsNil_eq, gsCons_eq, gsk_eq, gT2_eq, gT3_eq, iZ_eq, iz0_eq, iz1_eq, iz2_eq, sPin_eq, pin0_ow, pin0_sh, unpin_eq, unp_pn, pin1_nx, pin1_rt, cut_to, cut_from1])
local macro_rules | `(tactic| walk_at "eh") => `(tactic| simp only [eVar_eq, eVar_k1, eK_eq, oS_eq, oS_k1, oE_eq, oE_k1, fetch_d, fetch_s, fetch_k1, eOp2_eq, op2k1_eq, op2k2_eq, op2k3_eq, op2k4_eq, pr_some, aNil_eq, aC2_eq, aCons_eq, aC1_eq, fetchs_nil, fts2_eq, fetchs_cons, fts1_eq, eA_eq, eA1_eq, eA2_eq, allD_nil, allD_cons, eDisp_eq, eD1_eq, eD2_0, eD2_1, eD2_2, eD2_3, eD2_4, eD2_5, eD2_6, pNo_eq, pAt_eq, pAt1_eq, eSl_eq, sl1_eq, sl2_eq, sl3_eq, sl4_eq, eAnd_eq, and1_eq, eOr_eq, or1_eq, eNot_eq, not1_eq, eIf_eq, if1_eq, eNeg_eq, neg1_eq, eM_eq, m0_eq, m1_str, m1_lst, m2_eq, m3_eq, m4_eq, mu4_eq, mu3_ow, mu3_pn, mu2_eq, mu1_eq, mu0_eq, eMut_eq, sSeq_eq, seq1_nx, seq1_bk, seq1_ct, seq1_rt, sNil_eq, sBk_eq, sCt_eq, sRetN_eq, sE_eq, se1_eq, sRet_eq, sRetF_eq, sret1_eq, sRetOw_eq, sRetOw1_eq, sIf_eq, sif1_eq, sg2_eq, sG_eq, sg1_eq, okSet_eq, okk_none, okk_sh, okk_ow, gN_eq, sOw_eq, ow1_eq, sFz_eq, fz1_ow, fz1_sh, fz1_pn, fz1_no, stl3_eq, stl2_ow, stl2_pn, stl1_eq, sSetL_eq, sFor_eq, sfor1_eq, sWhile_eq, iL_eq, il1_eq, il2_eq, bOf_d, bOf_s, iR1_eq, ir1_eq, fn1_rt, fn1_nx, eCall_eq, eCallF_eq, cv1_eq, cv2_1, cv2_2, cv2_3, cv3_eq, cvE_eq, cvF_eq, eCallB_eq, cb0_eq, cb1_1, cb1_2, cb1_3, cb2_bl, cb2_int, cb2_str, eCallP_eq, eCallPF_eq, cp0_eq, cp1_eq, cp2_eq, cp3_ow0, cp3_ow1, cp3_ow2, cp3_pn0, cp3_pn1, cp3_pn2, cp4_eq, eLc_eq, lc2_eq, eDc_eq, dc2_eq, bnd_some, mp_some, gt0, gtS, st0, stS, if_true, if_false, if_pos, Bool.true_eq_false, Bool.false_eq_true, stl0_eq2, stk_eq, ix0, ix1, ix2, ix3, ix4, ixT0, ixT1, ixT2, addD_i, subD_i, ltD_i, ltD_s, leD_i, gtD_i, gtD_s, geD_i, powD_18, lenD_l, lenD_t, lenD_d, eqD_s, neD_s, eqD_i, neD_i, decide_eq_true_eq, ↓reduceIte, decide_true, decide_false, not_true_eq_false, not_false_eq_true, Bool.not_true, Bool.not_false, List.length_map, List.length_cons, List.length_nil, Int.reduceLT, Int.reduceLE, Int.reduceNeg, and_self, and_true, true_and, mulD_r, mulD_l, modD_i, fdivD_i, Int.reduceAdd, Nat.reduceAdd, ixN50, ixN51, ixN52, ixN53, ixN54, slL_eq, slL_scr, listD_l, cut_up, cut_last, cut_all, eqD_s, neD_s, slS_eq, inD_ls, inD_keys, wipe0, wipe1, rest0, rest1, gt0, gd_some, gd_none, decide_not, Bool.not_eq_true', decide_eq_false_iff_not, Classical.not_not, gPop_eq, allB_eq, List.nil_append, ↓reduceIte, pk4_eq, pk3_ow, pk3_pn, pk2_eq, pk1_s, pk1_i, pk0_eq, ePopK_eq, sk3_eq, sk2_s, sk2_i, sk1_eq, sk0_eq, sSetK_eq, listD_keys, neD_nil, dropD_keys, eq_self, isi_non_bool, isi_non_int, isi_non_str, isi_non_tuple, isi_non_list, isi_bl_bool, isi_bl_int, isi_bl_str, isi_bl_tuple, isi_bl_list, isi_int_bool, isi_int_int, isi_int_str, isi_int_tuple, isi_int_list, isi_str_bool, isi_str_int, isi_str_str, isi_str_tuple, isi_str_list, isi_tup_bool, isi_tup_int, isi_tup_str, isi_tup_tuple, isi_tup_list, isi_lst_bool, isi_lst_int, isi_lst_str, isi_lst_tuple, isi_lst_list, isN_non, isN_bl, isN_int, isN_str, isN_tup, isN_lst, eqD_b, neD_b, startsD_eq, anyB_map, allB_map, sumD_map, maxD1_map, notInD_ls, notInD_keys, gsNil_eq, gsCons_eq, gsk_eq, gT2_eq, gT3_eq, iZ_eq, iz0_eq, iz1_eq, iz2_eq, sPin_eq, pin0_ow, pin0_sh, unpin_eq, unp_pn, pin1_nx, pin1_rt, cut_to, cut_from1, *])
theorem int_int (i : Int) : fnF [.sh] 0 F__law_int [.int i] = some (.ok false (.bl true) [.non]) := by
  rw [fnF_eq _ _ _ _ rfl]
  show fn1 [.sh] (F__law_int [some (.sh, .int i)]) = _
  unfold F__law_int
  walk_at "ev"
  rfl
abbrev gInt : FN := fnF [.sh] 0 F__law_int
abbrev GLike (g : FN) : FN := fnF [.sh, .sh] 1 (F__law_like gInt g)
theorem like_flat {g : FN} {d : D} (h : flat d = true) : GLike g [d, d] = some (.ok false (.bl true) [.non, .non]) := by
  unfold GLike
  rw [fnF_eq _ _ _ _ rfl]
  show fn1 [.sh, .sh] (F__law_like gInt g [some (.sh, d), some (.sh, d), none]) = _
  unfold F__law_like gInt
  cases d <;> first | (cases h; done) | skip
  · walk_at "ev"
    rfl
  · walk_at "ev"
    rfl
  · rename_i i
    have e := int_int i
    walk_at "eh"
    rfl
  · walk_at "ev"
    rfl
theorem like_refl : ∀ (k : Nat) (d : D), Pl k d → ∀ m, k < m → recN GLike m [d, d] = some (.ok false (.bl true) [.non, .non])
  | _, _, _, 0, hm => absurd hm (by omega)
  | 0, d, h, m + 1, _ => like_flat h
  | k + 1, d, h, m + 1, hm => by
    rcases h with h | ⟨ds, h, hl, ha⟩
    · exact like_flat h
    · have ih : ∀ (i : Nat) (hi : i < ds.length), recN GLike m [ds[i], ds[i]] = some (.ok false (.bl true) [.non, .non]) := fun i hi => like_refl k _ (ha _ (List.getElem_mem hi)) m (by omega)
      have hr : (((List.range ds.length).filter fun _ => true).map fun _ => D.bl true) = (List.replicate ds.length true).map D.bl := by
        rw [filter_true]
        apply List.ext_getElem
        · simp
        · intro i h1 h2
          simp
      have hal : (List.replicate ds.length true).all id = true := by simp
      have hll : -1000000000 ≤ (ds.length : Int) ∧ (ds.length : Int) < 1000000000 := by omega
      show GLike (recN GLike m) [d, d] = _
      generalize recN GLike m = g at *
      unfold GLike
      rw [fnF_eq _ _ _ _ rfl]
      show fn1 [.sh, .sh] (F__law_like gInt g [some (.sh, d), some (.sh, d), none]) = _
      unfold F__law_like
      have l1 := fun pt c f items => lc1_eq [2] pt c f items [] [some (.sh, d), some (.sh, d), none] rfl rfl
      rcases h with rfl | rfl
      · walk_at "eh"
        rw [Int.toNat_natCast, rng0_map, lcL_filter (fun (i : Nat) => D.int (i : Int)) (fun _ => true) (fun _ => D.bl true) rfl (List.range ds.length) [] (by simp; omega) fun i hi => ⟨[some (.sh, .lst ds), some (.sh, .lst ds), some (.sh, .int (i : Int))], by walk_at "ev", by walk_at "ev", fun _ => ?_, by walk_at "ev"⟩]
        · walk_at "eh"
          rfl
        · have hi := List.mem_range.mp hi
          have e1 := ixD_l (List.getElem?_eq_getElem hi)
          have e2 := ih i hi
          walk_at "eh"
      · walk_at "eh"
        rw [Int.toNat_natCast, rng0_map, lcL_filter (fun (i : Nat) => D.int (i : Int)) (fun _ => true) (fun _ => D.bl true) rfl (List.range ds.length) [] (by simp; omega) fun i hi => ⟨[some (.sh, .tup ds), some (.sh, .tup ds), some (.sh, .int (i : Int))], by walk_at "ev", by walk_at "ev", fun _ => ?_, by walk_at "ev"⟩]
        · walk_at "eh"
          rfl
        · have hi := List.mem_range.mp hi
          have e1 := ixD_t (List.getElem?_eq_getElem hi)
          have e2 := ih i hi
          walk_at "eh"
end Lw
namespace Lw
open PySem PySem.Spec L2 Qd Qm
local macro_rules | `(tactic| walk_at "ev") => `(tactic| simp only [eVar_eq, eVar_k1, eK_eq, oS_eq, oS_k1, oE_eq, oE_k1, fetch_d, fetch_s, fetch_k1, eOp2_eq, op2k1_eq, op2k2_eq, op2k3_eq, op2k4_eq, pr_some, aNil_eq, aC2_eq, aCons_eq, aC1_eq, fetchs_nil, fts2_eq, fetchs_cons, fts1_eq, eA_eq, eA1_eq, eA2_eq, allD_nil, allD_cons, eDisp_eq, eD1_eq, eD2_0, eD2_1, eD2_2, eD2_3, eD2_4, eD2_5, eD2_6, pNo_eq, pAt_eq, pAt1_eq, eSl_eq, sl1_eq, sl2_eq, sl3_eq, sl4_eq, eAnd_eq, and1_eq, eOr_eq, or1_eq, eNot_eq, not1_eq, eIf_eq, if1_eq, eNeg_eq, neg1_eq, eM_eq, m0_eq, m1_str, m1_lst, m2_eq, m3_eq, m4_eq, mu4_eq, mu3_ow, mu3_pn, mu2_eq, mu1_eq, mu0_eq, eMut_eq, sSeq_eq, seq1_nx, seq1_bk, seq1_ct, seq1_rt, sNil_eq, sBk_eq, sCt_eq, sRetN_eq, sE_eq, se1_eq, sRet_eq, sRetF_eq, sret1_eq, sRetOw_eq, sRetOw1_eq, sIf_eq, sif1_eq, sg2_eq, sG_eq, sg1_eq, okSet_eq, okk_none, okk_sh, okk_ow, gN_eq, sOw_eq, ow1_eq, sFz_eq, fz1_ow, fz1_sh, fz1_pn, fz1_no, stl3_eq, stl2_ow, stl2_pn, stl1_eq, sSetL_eq, sFor_eq, sfor1_eq, sWhile_eq, iL_eq, il1_eq, il2_eq, bOf_d, bOf_s, iR1_eq, ir1_eq, fn1_rt, fn1_nx, eCall_eq, eCallF_eq, cv1_eq, cv2_1, cv2_2, cv2_3, cv3_eq, cvE_eq, cvF_eq, eCallB_eq, cb0_eq, cb1_1, cb1_2, cb1_3, cb2_bl, cb2_int, cb2_str, eCallP_eq, eCallPF_eq, cp0_eq, cp1_eq, cp2_eq, cp3_ow0, cp3_ow1, cp3_ow2, cp3_pn0, cp3_pn1, cp3_pn2, cp4_eq, eLc_eq, lc2_eq, eDc_eq, dc2_eq, bnd_some, mp_some, gt0, gtS, st0, stS, if_true, if_false, if_pos, Bool.true_eq_false, Bool.false_eq_true, stl0_eq2, stk_eq, ix0, ix1, ix2, ix3, ix4, ixT0, ixT1, ixT2, addD_i, subD_i, ltD_i, ltD_s, leD_i, gtD_i, gtD_s, geD_i, powD_18, lenD_l, lenD_t, lenD_d, eqD_s, neD_s, eqD_i, neD_i, decide_eq_true_eq, ↓reduceIte, decide_true, decide_false, not_true_eq_false, not_false_eq_true, Bool.not_true, Bool.not_false, List.length_map, List.length_cons, List.length_nil, Int.reduceLT, Int.reduceLE, Int.reduceNeg, and_self, and_true, true_and, mulD_r, mulD_l, modD_i, fdivD_i, Int.reduceAdd, Nat.reduceAdd, ixN50, ixN51, ixN52, ixN53, ixN54, slL_eq, slL_scr, listD_l, cut_up, cut_last, cut_all, eqD_s, neD_s, slS_eq, inD_ls, inD_keys, wipe0, wipe1, rest0, rest1, gt0, gd_some, gd_none, decide_not, Bool.not_eq_true', decide_eq_false_iff_not, Classical.not_not, gPop_eq, allB_eq, List.nil_append, ↓reduceIte, pk4_eq, pk3_ow, pk3_pn, pk2_eq, pk1_s, pk1_i, pk0_eq, ePopK_eq, sk3_eq, sk2_s, sk2_i, sk1_eq, sk0_eq, sSetK_eq, listD_keys, neD_nil, dropD_keys, eq_self, isi_non_bool, isi_non_int, isi_non_str, isi_non_tuple, isi_non_list, isi_bl_bool, isi_bl_int, isi_bl_str, isi_bl_tuple, isi_bl_list, isi_int_bool, isi_int_int, isi_int_str, isi_int_tuple, isi_int_list, isi_str_bool, isi_str_int, isi_str_str, isi_str_tuple, isi_str_list, isi_tup_bool, isi_tup_int, isi_tup_str, isi_tup_tuple, isi_tup_list, isi_lst_bool, isi_lst_int, isi_lst_str, isi_lst_tuple, isi_lst_list, isN_non, isN_bl, isN_int, isN_str, isN_tup, isN_lst, eqD_b, neD_b, startsD_eq, anyB_map, allB_map, sumD_map, maxD1_map, notInD_ls, notInD_keys, gsNil_eq, gsCons_eq, gsk_eq, gT2_eq, gT3_eq, iZ_eq, iz0_eq, iz1_eq, iz2_eq, sPin_eq, pin0_ow, pin0_sh, unpin_eq, unp_pn, pin1_nx, pin1_rt, cut_to, cut_from1])
local macro_rules | `(tactic| walk_at "eh") => `(tactic| simp only [eVar_eq, eVar_k1, eK_eq, oS_eq, oS_k1, oE_eq, oE_k1, fetch_d, fetch_s, fetch_k1, eOp2_eq, op2k1_eq, op2k2_eq, op2k3_eq, op2k4_eq, pr_some, aNil_eq, aC2_eq, aCons_eq, aC1_eq, fetchs_nil, fts2_eq, fetchs_cons, fts1_eq, eA_eq, eA1_eq, eA2_eq, allD_nil, allD_cons, eDisp_eq, eD1_eq, eD2_0, eD2_1, eD2_2, eD2_3, eD2_4, eD2_5, eD2_6, pNo_eq, pAt_eq, pAt1_eq, eSl_eq, sl1_eq, sl2_eq, sl3_eq, sl4_eq, eAnd_eq, and1_eq, eOr_eq, or1_eq, eNot_eq, not1_eq, eIf_eq, if1_eq, eNeg_eq, neg1_eq, eM_eq, m0_eq, m1_str, m1_lst, m2_eq, m3_eq, m4_eq, mu4_eq, mu3_ow, mu3_pn, mu2_eq, mu1_eq, mu0_eq, eMut_eq, sSeq_eq, seq1_nx, seq1_bk, seq1_ct, seq1_rt, sNil_eq, sBk_eq, sCt_eq, sRetN_eq, sE_eq, se1_eq, sRet_eq, sRetF_eq, sret1_eq, sRetOw_eq, sRetOw1_eq, sIf_eq, sif1_eq, sg2_eq, sG_eq, sg1_eq, okSet_eq, okk_none, okk_sh, okk_ow, gN_eq, sOw_eq, ow1_eq, sFz_eq, fz1_ow, fz1_sh, fz1_pn, fz1_no, stl3_eq, stl2_ow, stl2_pn, stl1_eq, sSetL_eq, sFor_eq, sfor1_eq, sWhile_eq, iL_eq, il1_eq, il2_eq, bOf_d, bOf_s, iR1_eq, ir1_eq, fn1_rt, fn1_nx, eCall_eq, eCallF_eq, cv1_eq, cv2_1, cv2_2, cv2_3, cv3_eq, cvE_eq, cvF_eq, eCallB_eq, cb0_eq, cb1_1, cb1_2, cb1_3, cb2_bl, cb2_int, cb2_str, eCallP_eq, eCallPF_eq, cp0_eq, cp1_eq, cp2_eq, cp3_ow0, cp3_ow1, cp3_ow2, cp3_pn0, cp3_pn1, cp3_pn2, cp4_eq, eLc_eq, lc2_eq, eDc_eq, dc2_eq, bnd_some, mp_some, gt0, gtS, st0, stS, if_true, if_false, if_pos, Bool.true_eq_false, Bool.false_eq_true, stl0_eq2, stk_eq, ix0, ix1, ix2, ix3, ix4, ixT0, ixT1, ixT2, addD_i, subD_i, ltD_i, ltD_s, leD_i, gtD_i, gtD_s, geD_i, powD_18, lenD_l, lenD_t, lenD_d, eqD_s, neD_s, eqD_i, neD_i, decide_eq_true_eq, ↓reduceIte, decide_true, decide_false, not_true_eq_false, not_false_eq_true, Bool.not_true, Bool.not_false, List.length_map, List.length_cons, List.length_nil, Int.reduceLT, Int.reduceLE, Int.reduceNeg, and_self, and_true, true_and, mulD_r, mulD_l, modD_i, fdivD_i, Int.reduceAdd, Nat.reduceAdd, ixN50, ixN51, ixN52, ixN53, ixN54, slL_eq, slL_scr, listD_l, cut_up, cut_last, cut_all, eqD_s, neD_s, slS_eq, inD_ls, inD_keys, wipe0, wipe1, rest0, rest1, gt0, gd_some, gd_none, decide_not, Bool.not_eq_true', decide_eq_false_iff_not, Classical.not_not, gPop_eq, allB_eq, List.nil_append, ↓reduceIte, pk4_eq, pk3_ow, pk3_pn, pk2_eq, pk1_s, pk1_i, pk0_eq, ePopK_eq, sk3_eq, sk2_s, sk2_i, sk1_eq, sk0_eq, sSetK_eq, listD_keys, neD_nil, dropD_keys, eq_self, isi_non_bool, isi_non_int, isi_non_str, isi_non_tuple, isi_non_list, isi_bl_bool, isi_bl_int, isi_bl_str, isi_bl_tuple, isi_bl_list, isi_int_bool, isi_int_int, isi_int_str, isi_int_tuple, isi_int_list, isi_str_bool, isi_str_int, isi_str_str, isi_str_tuple, isi_str_list, isi_tup_bool, isi_tup_int, isi_tup_str, isi_tup_tuple, isi_tup_list, isi_lst_bool, isi_lst_int, isi_lst_str, isi_lst_tuple, isi_lst_list, isN_non, isN_bl, isN_int, isN_str, isN_tup, isN_lst, eqD_b, neD_b, startsD_eq, anyB_map, allB_map, sumD_map, maxD1_map, notInD_ls, notInD_keys, gsNil_eq, gsCons_eq, gsk_eq, gT2_eq, gT3_eq, iZ_eq, iz0_eq, iz1_eq, iz2_eq, sPin_eq, pin0_ow, pin0_sh, unpin_eq, unp_pn, pin1_nx, pin1_rt, cut_to, cut_from1, *])
def Drw (g : FN) : Prop := ∀ (b : Box) (m : Nat), 0 < m → m < 1000000 → ∃ (n : Nat) (b2 : Box), n < m ∧ g [boxD b, .int (m : Int)] = some (.ok false (.int (n : Int)) [boxD b2, .non])
theorem drw : Drw (fnF [.pn, .sh] 3 F__law_draw) := fun b m h0 h1 => by
  have e := draw_run b m (by omega) (by omega)
  have key : ∀ x : Int, 0 ≤ x % (m : Int) ∧ x % (m : Int) < m := fun x => ⟨Int.emod_nonneg _ (by omega), Int.emod_lt_of_pos _ (by omega)⟩
  have r : 0 ≤ (draw b m).1 ∧ (draw b m).1 < m := by
    unfold draw draw2
    split
    · exact key _
    · exact key _
  refine ⟨(draw b m).1.toNat, (draw b m).2, by omega, ?_⟩
  rw [e]
  congr 3
  omega
end Lw
namespace Lw
open PySem PySem.Spec L2 Qd Qm
local macro_rules | `(tactic| walk_at "ev") => `(tactic| simp only [eVar_eq, eVar_k1, eK_eq, oS_eq, oS_k1, oE_eq, oE_k1, fetch_d, fetch_s, fetch_k1, eOp2_eq, op2k1_eq, op2k2_eq, op2k3_eq, op2k4_eq, pr_some, aNil_eq, aC2_eq, aCons_eq, aC1_eq, fetchs_nil, fts2_eq, fetchs_cons, fts1_eq, eA_eq, eA1_eq, eA2_eq, allD_nil, allD_cons, eDisp_eq, eD1_eq, eD2_0, eD2_1, eD2_2, eD2_3, eD2_4, eD2_5, eD2_6, pNo_eq, pAt_eq, pAt1_eq, eSl_eq, sl1_eq, sl2_eq, sl3_eq, sl4_eq, eAnd_eq, and1_eq, eOr_eq, or1_eq, eNot_eq, not1_eq, eIf_eq, if1_eq, eNeg_eq, neg1_eq, eM_eq, m0_eq, m1_str, m1_lst, m2_eq, m3_eq, m4_eq, mu4_eq, mu3_ow, mu3_pn, mu2_eq, mu1_eq, mu0_eq, eMut_eq, sSeq_eq, seq1_nx, seq1_bk, seq1_ct, seq1_rt, sNil_eq, sBk_eq, sCt_eq, sRetN_eq, sE_eq, se1_eq, sRet_eq, sRetF_eq, sret1_eq, sRetOw_eq, sRetOw1_eq, sIf_eq, sif1_eq, sg2_eq, sG_eq, sg1_eq, okSet_eq, okk_none, okk_sh, okk_ow, gN_eq, sOw_eq, ow1_eq, sFz_eq, fz1_ow, fz1_sh, fz1_pn, fz1_no, stl3_eq, stl2_ow, stl2_pn, stl1_eq, sSetL_eq, sFor_eq, sfor1_eq, sWhile_eq, iL_eq, il1_eq, il2_eq, bOf_d, bOf_s, iR1_eq, ir1_eq, fn1_rt, fn1_nx, eCall_eq, eCallF_eq, cv1_eq, cv2_1, cv2_2, cv2_3, cv3_eq, cvE_eq, cvF_eq, eCallB_eq, cb0_eq, cb1_1, cb1_2, cb1_3, cb2_bl, cb2_int, cb2_str, eCallP_eq, eCallPF_eq, cp0_eq, cp1_eq, cp2_eq, cp3_ow0, cp3_ow1, cp3_ow2, cp3_pn0, cp3_pn1, cp3_pn2, cp4_eq, eLc_eq, lc2_eq, eDc_eq, dc2_eq, bnd_some, mp_some, gt0, gtS, st0, stS, if_true, if_false, if_pos, Bool.true_eq_false, Bool.false_eq_true, stl0_eq2, stk_eq, ix0, ix1, ix2, ix3, ix4, ixT0, ixT1, ixT2, addD_i, subD_i, ltD_i, ltD_s, leD_i, gtD_i, gtD_s, geD_i, powD_18, lenD_l, lenD_t, lenD_d, eqD_s, neD_s, eqD_i, neD_i, decide_eq_true_eq, ↓reduceIte, decide_true, decide_false, not_true_eq_false, not_false_eq_true, Bool.not_true, Bool.not_false, List.length_map, List.length_cons, List.length_nil, Int.reduceLT, Int.reduceLE, Int.reduceNeg, and_self, and_true, true_and, mulD_r, mulD_l, modD_i, fdivD_i, Int.reduceAdd, Nat.reduceAdd, ixN50, ixN51, ixN52, ixN53, ixN54, slL_eq, slL_scr, listD_l, cut_up, cut_last, cut_all, slS_eq, inD_ls, inD_keys, wipe0, wipe1, rest0, rest1, gd_some, gd_none, decide_not, Bool.not_eq_true', decide_eq_false_iff_not, Classical.not_not, gPop_eq, allB_eq, List.nil_append, pk4_eq, pk3_ow, pk3_pn, pk2_eq, pk1_s, pk1_i, pk0_eq, ePopK_eq, sk3_eq, sk2_s, sk2_i, sk1_eq, sk0_eq, sSetK_eq, listD_keys, neD_nil, dropD_keys, eq_self, isi_non_bool, isi_non_int, isi_non_str, isi_non_tuple, isi_non_list, isi_bl_bool, isi_bl_int, isi_bl_str, isi_bl_tuple, isi_bl_list, isi_int_bool, isi_int_int, isi_int_str, isi_int_tuple, isi_int_list, isi_str_bool, isi_str_int, isi_str_str, isi_str_tuple, isi_str_list, isi_tup_bool, isi_tup_int, isi_tup_str, isi_tup_tuple, isi_tup_list, isi_lst_bool, isi_lst_int, isi_lst_str, isi_lst_tuple, isi_lst_list, isN_non, isN_bl, isN_int, isN_str, isN_tup, isN_lst, eqD_b, neD_b, startsD_eq, anyB_map, allB_map, sumD_map, maxD1_map, notInD_ls, notInD_keys, gsNil_eq, gsCons_eq, gsk_eq, gT2_eq, gT3_eq, iZ_eq, iz0_eq, iz1_eq, iz2_eq, sPin_eq, pin0_ow, pin0_sh, unpin_eq, unp_pn, pin1_nx, pin1_rt, cut_to, cut_from1, eFld_eq, fd0_eq, fd1_eq, sFd_eq, sfd0_eq, sfd1_ow, sfd1_pn, sfd2_eq, eMeth_eq, eMethF_eq, me0_eq, me1_eq, me2_eq, me3_0, me3_1, me3_2, me3_3, eMethP_eq, eMethPF_eq, mp0_ow, mp0_pn, mp1_eq, eNew_eq, nw0_eq, nw1_0, nw1_1, nw1_2, nw2_eq, exEq_eq, xq0_eq, xq1_eq, xq2_eq, xq3_eq, iso_eq, iso1_t, iS_eq, is1_eq, is0_eq, iR2_eq, ir2a_eq, ir2c_eq, maxD2_i, inD_sign, lc1_go, lcc_eq, dc1_go, dcc_eq, now_nil, now_cons, now1_sh, now1_none, bsV_nil, bsV_cons, Bool.and_true, Bool.true_and, fld_b, fld_r, set_b0, set_r0, set_b1, set_r1, isC_end, hasM_settle0, hasM_settle, hasM_head, hasM_ring, hasM_first, hasM_signs, hasM_later, hasM_behind, hasM_below, hasM_under, hasM_begins, hasM_starts, hasM_before, nin_nil, nin_cons, Nat.reduceBNe])
local macro_rules | `(tactic| walk_at "eh") => `(tactic| simp only [eVar_eq, eVar_k1, eK_eq, oS_eq, oS_k1, oE_eq, oE_k1, fetch_d, fetch_s, fetch_k1, eOp2_eq, op2k1_eq, op2k2_eq, op2k3_eq, op2k4_eq, pr_some, aNil_eq, aC2_eq, aCons_eq, aC1_eq, fetchs_nil, fts2_eq, fetchs_cons, fts1_eq, eA_eq, eA1_eq, eA2_eq, allD_nil, allD_cons, eDisp_eq, eD1_eq, eD2_0, eD2_1, eD2_2, eD2_3, eD2_4, eD2_5, eD2_6, pNo_eq, pAt_eq, pAt1_eq, eSl_eq, sl1_eq, sl2_eq, sl3_eq, sl4_eq, eAnd_eq, and1_eq, eOr_eq, or1_eq, eNot_eq, not1_eq, eIf_eq, if1_eq, eNeg_eq, neg1_eq, eM_eq, m0_eq, m1_str, m1_lst, m2_eq, m3_eq, m4_eq, mu4_eq, mu3_ow, mu3_pn, mu2_eq, mu1_eq, mu0_eq, eMut_eq, sSeq_eq, seq1_nx, seq1_bk, seq1_ct, seq1_rt, sNil_eq, sBk_eq, sCt_eq, sRetN_eq, sE_eq, se1_eq, sRet_eq, sRetF_eq, sret1_eq, sRetOw_eq, sRetOw1_eq, sIf_eq, sif1_eq, sg2_eq, sG_eq, sg1_eq, okSet_eq, okk_none, okk_sh, okk_ow, gN_eq, sOw_eq, ow1_eq, sFz_eq, fz1_ow, fz1_sh, fz1_pn, fz1_no, stl3_eq, stl2_ow, stl2_pn, stl1_eq, sSetL_eq, sFor_eq, sfor1_eq, sWhile_eq, iL_eq, il1_eq, il2_eq, bOf_d, bOf_s, iR1_eq, ir1_eq, fn1_rt, fn1_nx, eCall_eq, eCallF_eq, cv1_eq, cv2_1, cv2_2, cv2_3, cv3_eq, cvE_eq, cvF_eq, eCallB_eq, cb0_eq, cb1_1, cb1_2, cb1_3, cb2_bl, cb2_int, cb2_str, eCallP_eq, eCallPF_eq, cp0_eq, cp1_eq, cp2_eq, cp3_ow0, cp3_ow1, cp3_ow2, cp3_pn0, cp3_pn1, cp3_pn2, cp4_eq, eLc_eq, lc2_eq, eDc_eq, dc2_eq, bnd_some, mp_some, gt0, gtS, st0, stS, if_true, if_false, if_pos, Bool.true_eq_false, Bool.false_eq_true, stl0_eq2, stk_eq, ix0, ix1, ix2, ix3, ix4, ixT0, ixT1, ixT2, addD_i, subD_i, ltD_i, ltD_s, leD_i, gtD_i, gtD_s, geD_i, powD_18, lenD_l, lenD_t, lenD_d, eqD_s, neD_s, eqD_i, neD_i, decide_eq_true_eq, ↓reduceIte, decide_true, decide_false, not_true_eq_false, not_false_eq_true, Bool.not_true, Bool.not_false, List.length_map, List.length_cons, List.length_nil, Int.reduceLT, Int.reduceLE, Int.reduceNeg, and_self, and_true, true_and, mulD_r, mulD_l, modD_i, fdivD_i, Int.reduceAdd, Nat.reduceAdd, ixN50, ixN51, ixN52, ixN53, ixN54, slL_eq, slL_scr, listD_l, cut_up, cut_last, cut_all, slS_eq, inD_ls, inD_keys, wipe0, wipe1, rest0, rest1, gd_some, gd_none, decide_not, Bool.not_eq_true', decide_eq_false_iff_not, Classical.not_not, gPop_eq, allB_eq, List.nil_append, pk4_eq, pk3_ow, pk3_pn, pk2_eq, pk1_s, pk1_i, pk0_eq, ePopK_eq, sk3_eq, sk2_s, sk2_i, sk1_eq, sk0_eq, sSetK_eq, listD_keys, neD_nil, dropD_keys, eq_self, isi_non_bool, isi_non_int, isi_non_str, isi_non_tuple, isi_non_list, isi_bl_bool, isi_bl_int, isi_bl_str, isi_bl_tuple, isi_bl_list, isi_int_bool, isi_int_int, isi_int_str, isi_int_tuple, isi_int_list, isi_str_bool, isi_str_int, isi_str_str, isi_str_tuple, isi_str_list, isi_tup_bool, isi_tup_int, isi_tup_str, isi_tup_tuple, isi_tup_list, isi_lst_bool, isi_lst_int, isi_lst_str, isi_lst_tuple, isi_lst_list, isN_non, isN_bl, isN_int, isN_str, isN_tup, isN_lst, eqD_b, neD_b, startsD_eq, anyB_map, allB_map, sumD_map, maxD1_map, notInD_ls, notInD_keys, gsNil_eq, gsCons_eq, gsk_eq, gT2_eq, gT3_eq, iZ_eq, iz0_eq, iz1_eq, iz2_eq, sPin_eq, pin0_ow, pin0_sh, unpin_eq, unp_pn, pin1_nx, pin1_rt, cut_to, cut_from1, eFld_eq, fd0_eq, fd1_eq, sFd_eq, sfd0_eq, sfd1_ow, sfd1_pn, sfd2_eq, eMeth_eq, eMethF_eq, me0_eq, me1_eq, me2_eq, me3_0, me3_1, me3_2, me3_3, eMethP_eq, eMethPF_eq, mp0_ow, mp0_pn, mp1_eq, eNew_eq, nw0_eq, nw1_0, nw1_1, nw1_2, nw2_eq, exEq_eq, xq0_eq, xq1_eq, xq2_eq, xq3_eq, iso_eq, iso1_t, iS_eq, is1_eq, is0_eq, iR2_eq, ir2a_eq, ir2c_eq, maxD2_i, inD_sign, lc1_go, lcc_eq, dc1_go, dcc_eq, now_nil, now_cons, now1_sh, now1_none, bsV_nil, bsV_cons, Bool.and_true, Bool.true_and, fld_b, fld_r, set_b0, set_r0, set_b1, set_r1, isC_end, hasM_settle0, hasM_settle, hasM_head, hasM_ring, hasM_first, hasM_signs, hasM_later, hasM_behind, hasM_below, hasM_under, hasM_begins, hasM_starts, hasM_before, nin_nil, nin_cons, Nat.reduceBNe, *])
def Sgn (g : FN) : Prop := ∀ (b : Box) (n : Nat), n ≤ 10000 → ∃ (x : Wd) (b2 : Box), Bin x ∧ x.length = n ∧ g [boxD b, .int (n : Int)] = some (.ok false (.str x) [boxD b2, .non])
theorem signs_run {g : FN} (hg : Drw g) : Sgn (fnF [.pn, .sh] 1 (F__law_signs g)) := fun b n hn => by
  suffices h : W (fnF [.pn, .sh] 1 (F__law_signs g) [boxD b, .int (n : Int)]) fun r => ∃ (x : Wd) (b2 : Box), Bin x ∧ x.length = n ∧ r = .ok false (.str x) [boxD b2, .non] by
    obtain ⟨r, e, x, b2, h1, h2, rfl⟩ := h
    exact ⟨x, b2, h1, h2, e⟩
  rw [fnF_eq _ _ _ _ rfl]
  show W (fn1 [.pn, .sh] (F__law_signs g [pv (boxD b), sv (.int (n : Int)), none])) _
  unfold F__law_signs
  walk_at "ev"
  have n1 : -1000000000 ≤ (n : Int) ∧ (n : Int) < 1000000000 := by omega
  walk_at "eh"
  rw [Int.toNat_natCast]
  generalize hL : Qd.lcL [] [2] _ _ _ _ _ _ = L
  have hW : W L fun p => ∃ (cs : List Nat) (b2 : Box), p = (cs.map fun c => D.str [c], [pv (boxD b2), sv (.int (n : Int)), none]) ∧ Bin cs ∧ cs.length = n := by
    rw [← hL]
    refine W.lcL (fun items e acc => ∃ (cs : List Nat) (b2 : Box), e = [pv (boxD b2), sv (.int (n : Int)), none] ∧ acc = (cs.map fun c => D.str [c]) ∧ Bin cs ∧ cs.length + items.length = n) ?_ ?_ _ _ _ ⟨[], b, rfl, rfl, Qm.Bin.nil, by rw [rng_len]; simp⟩
    · rintro e acc ⟨cs, b2, rfl, rfl, hc, hl⟩
      exact ⟨rfl, cs, b2, rfl, hc, by simpa using hl⟩
    · rintro d ds e acc ⟨cs, b2, rfl, rfl, hc, hl⟩
      have hl : cs.length + (ds.length + 1) = n := hl
      obtain ⟨m, b3, hm, e1⟩ := hg b2 2 (by omega) (by omega)
      obtain ⟨c, hc1, hc2⟩ := ixS_01 m hm
      refine ⟨rfl, [pv (boxD b2), sv (.int (n : Int)), sv d], true, [pv (boxD b2), sv (.int (n : Int)), sv d], by walk_at "ev", by walk_at "ev", ?_⟩
      rw [if_pos rfl]
      refine ⟨.str [c], [pv (boxD b3), sv (.int (n : Int)), sv d], ?_, by simp; omega, cs ++ [c], b3, by walk_at "ev", by simp, Qm.Bin.snoc hc hc1, by simp; omega⟩
      rw [show ((2 : Nat) : Int) = 2 from rfl] at e1
      clear n1 hl hL
      walk_at "eh"
  clear hL
  obtain ⟨p, rfl, cs, b2, rfl, hc, hl⟩ := hW
  have fl : (cs.map fun c => [c]).flatten = cs := by
    clear hc hl
    induction cs with
    | nil => rfl
    | cons c cs ih => simpa using ih
  have j := joinD_s (cs.map fun c => [c]) (by rw [fl]; omega)
  rw [fl, List.map_map] at j
  have j2 : joinD (.str []) [.lst (cs.map fun c => D.str [c])] = some (.str cs) := j
  clear j fl n1
  walk_at "eh"
  exact W.ret ⟨cs, b2, hc, hl, rfl⟩
end Lw
namespace Lw
open PySem PySem.Spec L2 Qd Qm
local macro_rules | `(tactic| walk_at "ev") => `(tactic| simp only [eVar_eq, eVar_k1, eK_eq, oS_eq, oS_k1, oE_eq, oE_k1, fetch_d, fetch_s, fetch_k1, eOp2_eq, op2k1_eq, op2k2_eq, op2k3_eq, op2k4_eq, pr_some, aNil_eq, aC2_eq, aCons_eq, aC1_eq, fetchs_nil, fts2_eq, fetchs_cons, fts1_eq, eA_eq, eA1_eq, eA2_eq, allD_nil, allD_cons, eDisp_eq, eD1_eq, eD2_0, eD2_1, eD2_2, eD2_3, eD2_4, eD2_5, eD2_6, pNo_eq, pAt_eq, pAt1_eq, eSl_eq, sl1_eq, sl2_eq, sl3_eq, sl4_eq, eAnd_eq, and1_eq, eOr_eq, or1_eq, eNot_eq, not1_eq, eIf_eq, if1_eq, eNeg_eq, neg1_eq, eM_eq, m0_eq, m1_str, m1_lst, m2_eq, m3_eq, m4_eq, mu4_eq, mu3_ow, mu3_pn, mu2_eq, mu1_eq, mu0_eq, eMut_eq, sSeq_eq, seq1_nx, seq1_bk, seq1_ct, seq1_rt, sNil_eq, sBk_eq, sCt_eq, sRetN_eq, sE_eq, se1_eq, sRet_eq, sRetF_eq, sret1_eq, sRetOw_eq, sRetOw1_eq, sIf_eq, sif1_eq, sg2_eq, sG_eq, sg1_eq, okSet_eq, okk_none, okk_sh, okk_ow, gN_eq, sOw_eq, ow1_eq, sFz_eq, fz1_ow, fz1_sh, fz1_pn, fz1_no, stl3_eq, stl2_ow, stl2_pn, stl1_eq, sSetL_eq, sFor_eq, sfor1_eq, sWhile_eq, iL_eq, il1_eq, il2_eq, bOf_d, bOf_s, iR1_eq, ir1_eq, fn1_rt, fn1_nx, eCall_eq, eCallF_eq, cv1_eq, cv2_1, cv2_2, cv2_3, cv3_eq, cvE_eq, cvF_eq, eCallB_eq, cb0_eq, cb1_1, cb1_2, cb1_3, cb2_bl, cb2_int, cb2_str, eCallP_eq, eCallPF_eq, cp0_eq, cp1_eq, cp2_eq, cp3_ow0, cp3_ow1, cp3_ow2, cp3_pn0, cp3_pn1, cp3_pn2, cp4_eq, eLc_eq, lc2_eq, eDc_eq, dc2_eq, bnd_some, mp_some, gt0, gtS, st0, stS, if_true, if_false, if_pos, Bool.true_eq_false, Bool.false_eq_true, stl0_eq2, stk_eq, ix0, ix1, ix2, ix3, ix4, ixT0, ixT1, ixT2, addD_i, subD_i, ltD_i, ltD_s, leD_i, gtD_i, gtD_s, geD_i, powD_18, lenD_l, lenD_t, lenD_d, eqD_s, neD_s, eqD_i, neD_i, decide_eq_true_eq, ↓reduceIte, decide_true, decide_false, not_true_eq_false, not_false_eq_true, Bool.not_true, Bool.not_false, List.length_map, List.length_cons, List.length_nil, Int.reduceLT, Int.reduceLE, Int.reduceNeg, and_self, and_true, true_and, mulD_r, mulD_l, modD_i, fdivD_i, Int.reduceAdd, Nat.reduceAdd, ixN50, ixN51, ixN52, ixN53, ixN54, slL_eq, slL_scr, listD_l, cut_up, cut_last, cut_all, slS_eq, inD_ls, inD_keys, wipe0, wipe1, rest0, rest1, gd_some, gd_none, decide_not, Bool.not_eq_true', decide_eq_false_iff_not, Classical.not_not, gPop_eq, allB_eq, List.nil_append, pk4_eq, pk3_ow, pk3_pn, pk2_eq, pk1_s, pk1_i, pk0_eq, ePopK_eq, sk3_eq, sk2_s, sk2_i, sk1_eq, sk0_eq, sSetK_eq, listD_keys, neD_nil, dropD_keys, eq_self, isi_non_bool, isi_non_int, isi_non_str, isi_non_tuple, isi_non_list, isi_bl_bool, isi_bl_int, isi_bl_str, isi_bl_tuple, isi_bl_list, isi_int_bool, isi_int_int, isi_int_str, isi_int_tuple, isi_int_list, isi_str_bool, isi_str_int, isi_str_str, isi_str_tuple, isi_str_list, isi_tup_bool, isi_tup_int, isi_tup_str, isi_tup_tuple, isi_tup_list, isi_lst_bool, isi_lst_int, isi_lst_str, isi_lst_tuple, isi_lst_list, isN_non, isN_bl, isN_int, isN_str, isN_tup, isN_lst, eqD_b, neD_b, startsD_eq, anyB_map, allB_map, sumD_map, maxD1_map, notInD_ls, notInD_keys, gsNil_eq, gsCons_eq, gsk_eq, gT2_eq, gT3_eq, iZ_eq, iz0_eq, iz1_eq, iz2_eq, sPin_eq, pin0_ow, pin0_sh, unpin_eq, unp_pn, pin1_nx, pin1_rt, cut_to, cut_from1, eFld_eq, fd0_eq, fd1_eq, sFd_eq, sfd0_eq, sfd1_ow, sfd1_pn, sfd2_eq, eMeth_eq, eMethF_eq, me0_eq, me1_eq, me2_eq, me3_0, me3_1, me3_2, me3_3, eMethP_eq, eMethPF_eq, mp0_ow, mp0_pn, mp1_eq, eNew_eq, nw0_eq, nw1_0, nw1_1, nw1_2, nw2_eq, exEq_eq, xq0_eq, xq1_eq, xq2_eq, xq3_eq, iso_eq, iso1_t, iS_eq, is1_eq, is0_eq, iR2_eq, ir2a_eq, ir2c_eq, maxD2_i, inD_sign, lc1_go, lcc_eq, dc1_go, dcc_eq, now_nil, now_cons, now1_sh, now1_none, bsV_nil, bsV_cons, Bool.and_true, Bool.true_and, fld_b, fld_r, set_b0, set_r0, set_b1, set_r1, isC_end, hasM_settle0, hasM_settle, hasM_head, hasM_ring, hasM_first, hasM_signs, hasM_later, hasM_behind, hasM_below, hasM_under, hasM_begins, hasM_starts, hasM_before, nin_nil, nin_cons, Nat.reduceBNe])
local macro_rules | `(tactic| walk_at "eh") => `(tactic| simp only [eVar_eq, eVar_k1, eK_eq, oS_eq, oS_k1, oE_eq, oE_k1, fetch_d, fetch_s, fetch_k1, eOp2_eq, op2k1_eq, op2k2_eq, op2k3_eq, op2k4_eq, pr_some, aNil_eq, aC2_eq, aCons_eq, aC1_eq, fetchs_nil, fts2_eq, fetchs_cons, fts1_eq, eA_eq, eA1_eq, eA2_eq, allD_nil, allD_cons, eDisp_eq, eD1_eq, eD2_0, eD2_1, eD2_2, eD2_3, eD2_4, eD2_5, eD2_6, pNo_eq, pAt_eq, pAt1_eq, eSl_eq, sl1_eq, sl2_eq, sl3_eq, sl4_eq, eAnd_eq, and1_eq, eOr_eq, or1_eq, eNot_eq, not1_eq, eIf_eq, if1_eq, eNeg_eq, neg1_eq, eM_eq, m0_eq, m1_str, m1_lst, m2_eq, m3_eq, m4_eq, mu4_eq, mu3_ow, mu3_pn, mu2_eq, mu1_eq, mu0_eq, eMut_eq, sSeq_eq, seq1_nx, seq1_bk, seq1_ct, seq1_rt, sNil_eq, sBk_eq, sCt_eq, sRetN_eq, sE_eq, se1_eq, sRet_eq, sRetF_eq, sret1_eq, sRetOw_eq, sRetOw1_eq, sIf_eq, sif1_eq, sg2_eq, sG_eq, sg1_eq, okSet_eq, okk_none, okk_sh, okk_ow, gN_eq, sOw_eq, ow1_eq, sFz_eq, fz1_ow, fz1_sh, fz1_pn, fz1_no, stl3_eq, stl2_ow, stl2_pn, stl1_eq, sSetL_eq, sFor_eq, sfor1_eq, sWhile_eq, iL_eq, il1_eq, il2_eq, bOf_d, bOf_s, iR1_eq, ir1_eq, fn1_rt, fn1_nx, eCall_eq, eCallF_eq, cv1_eq, cv2_1, cv2_2, cv2_3, cv3_eq, cvE_eq, cvF_eq, eCallB_eq, cb0_eq, cb1_1, cb1_2, cb1_3, cb2_bl, cb2_int, cb2_str, eCallP_eq, eCallPF_eq, cp0_eq, cp1_eq, cp2_eq, cp3_ow0, cp3_ow1, cp3_ow2, cp3_pn0, cp3_pn1, cp3_pn2, cp4_eq, eLc_eq, lc2_eq, eDc_eq, dc2_eq, bnd_some, mp_some, gt0, gtS, st0, stS, if_true, if_false, if_pos, Bool.true_eq_false, Bool.false_eq_true, stl0_eq2, stk_eq, ix0, ix1, ix2, ix3, ix4, ixT0, ixT1, ixT2, addD_i, subD_i, ltD_i, ltD_s, leD_i, gtD_i, gtD_s, geD_i, powD_18, lenD_l, lenD_t, lenD_d, eqD_s, neD_s, eqD_i, neD_i, decide_eq_true_eq, ↓reduceIte, decide_true, decide_false, not_true_eq_false, not_false_eq_true, Bool.not_true, Bool.not_false, List.length_map, List.length_cons, List.length_nil, Int.reduceLT, Int.reduceLE, Int.reduceNeg, and_self, and_true, true_and, mulD_r, mulD_l, modD_i, fdivD_i, Int.reduceAdd, Nat.reduceAdd, ixN50, ixN51, ixN52, ixN53, ixN54, slL_eq, slL_scr, listD_l, cut_up, cut_last, cut_all, slS_eq, inD_ls, inD_keys, wipe0, wipe1, rest0, rest1, gd_some, gd_none, decide_not, Bool.not_eq_true', decide_eq_false_iff_not, Classical.not_not, gPop_eq, allB_eq, List.nil_append, pk4_eq, pk3_ow, pk3_pn, pk2_eq, pk1_s, pk1_i, pk0_eq, ePopK_eq, sk3_eq, sk2_s, sk2_i, sk1_eq, sk0_eq, sSetK_eq, listD_keys, neD_nil, dropD_keys, eq_self, isi_non_bool, isi_non_int, isi_non_str, isi_non_tuple, isi_non_list, isi_bl_bool, isi_bl_int, isi_bl_str, isi_bl_tuple, isi_bl_list, isi_int_bool, isi_int_int, isi_int_str, isi_int_tuple, isi_int_list, isi_str_bool, isi_str_int, isi_str_str, isi_str_tuple, isi_str_list, isi_tup_bool, isi_tup_int, isi_tup_str, isi_tup_tuple, isi_tup_list, isi_lst_bool, isi_lst_int, isi_lst_str, isi_lst_tuple, isi_lst_list, isN_non, isN_bl, isN_int, isN_str, isN_tup, isN_lst, eqD_b, neD_b, startsD_eq, anyB_map, allB_map, sumD_map, maxD1_map, notInD_ls, notInD_keys, gsNil_eq, gsCons_eq, gsk_eq, gT2_eq, gT3_eq, iZ_eq, iz0_eq, iz1_eq, iz2_eq, sPin_eq, pin0_ow, pin0_sh, unpin_eq, unp_pn, pin1_nx, pin1_rt, cut_to, cut_from1, eFld_eq, fd0_eq, fd1_eq, sFd_eq, sfd0_eq, sfd1_ow, sfd1_pn, sfd2_eq, eMeth_eq, eMethF_eq, me0_eq, me1_eq, me2_eq, me3_0, me3_1, me3_2, me3_3, eMethP_eq, eMethPF_eq, mp0_ow, mp0_pn, mp1_eq, eNew_eq, nw0_eq, nw1_0, nw1_1, nw1_2, nw2_eq, exEq_eq, xq0_eq, xq1_eq, xq2_eq, xq3_eq, iso_eq, iso1_t, iS_eq, is1_eq, is0_eq, iR2_eq, ir2a_eq, ir2c_eq, maxD2_i, inD_sign, lc1_go, lcc_eq, dc1_go, dcc_eq, now_nil, now_cons, now1_sh, now1_none, bsV_nil, bsV_cons, Bool.and_true, Bool.true_and, fld_b, fld_r, set_b0, set_r0, set_b1, set_r1, isC_end, hasM_settle0, hasM_settle, hasM_head, hasM_ring, hasM_first, hasM_signs, hasM_later, hasM_behind, hasM_below, hasM_under, hasM_begins, hasM_starts, hasM_before, nin_nil, nin_cons, Nat.reduceBNe, *])
theorem is_signs_run (x : Wd) (hx : x.length ≤ 100000) : fnF [.sh] 1 F_is_signs [.str x] = some (.ok false (.bl (bits x)) [.non]) := by
  rw [fnF_eq _ _ _ _ rfl]
  show fn1 [.sh] (F_is_signs [sv (.str x), none]) = _
  unfold F_is_signs
  walk_at "ev"
  rw [lcL_map (fun c => D.str [c]) (fun c => .bl (decide (c ∈ [48, 49]))) rfl x (by omega) fun c hc => ⟨[sv (.str x), sv (.str [c])], by walk_at "ev", by walk_at "ev", by walk_at "ev", by walk_at "ev"⟩]
  walk_at "ev"
  rfl
theorem is_head_run {g : FN} (hg : ∀ x : Wd, x.length ≤ 100000 → g [.str x] = some (.ok false (.bl (bits x)) [.non])) (x : Wd) (hx : x.length ≤ 100000) : fnF [.sh] 0 (F_is_head g) [.str x] = some (.ok false (.bl (decide ((x.length : Int) ≤ 60) && bits x)) [.non]) := by
  rw [fnF_eq _ _ _ _ rfl]
  show fn1 [.sh] (F_is_head g [sv (.str x)]) = _
  unfold F_is_head
  have h1 := lenD_s x (by omega)
  have h2 := hg x hx
  by_cases c : (x.length : Int) ≤ 60
  · walk_at "eh"
    rfl
  · walk_at "eh"
    rfl
theorem need_head_run {g : FN} (hg : ∀ x : Wd, x.length ≤ 100000 → g [.str x] = some (.ok false (.bl (decide ((x.length : Int) ≤ 60) && bits x)) [.non])) (x : Wd) (hx : x.length ≤ 60) (hb : Bin x) : fnF [.sh] 0 (F_need_head g) [.str x] = some (.ok false .non [.non]) := by
  rw [fnF_eq _ _ _ _ rfl]
  show fn1 [.sh] (F_need_head g [sv (.str x)]) = _
  unfold F_need_head
  have h2 := hg x (by omega)
  rw [bits_iff.mpr hb, decide_eq_true (by omega)] at h2
  walk_at "eh"
  rfl
end Lw
namespace Lw
open PySem PySem.Spec L2 Qd Qm
local macro_rules | `(tactic| walk_at "ev") => `(tactic| simp only [eVar_eq, eVar_k1, eK_eq, oS_eq, oS_k1, oE_eq, oE_k1, fetch_d, fetch_s, fetch_k1, eOp2_eq, op2k1_eq, op2k2_eq, op2k3_eq, op2k4_eq, pr_some, aNil_eq, aC2_eq, aCons_eq, aC1_eq, fetchs_nil, fts2_eq, fetchs_cons, fts1_eq, eA_eq, eA1_eq, eA2_eq, allD_nil, allD_cons, eDisp_eq, eD1_eq, eD2_0, eD2_1, eD2_2, eD2_3, eD2_4, eD2_5, eD2_6, pNo_eq, pAt_eq, pAt1_eq, eSl_eq, sl1_eq, sl2_eq, sl3_eq, sl4_eq, eAnd_eq, and1_eq, eOr_eq, or1_eq, eNot_eq, not1_eq, eIf_eq, if1_eq, eNeg_eq, neg1_eq, eM_eq, m0_eq, m1_str, m1_lst, m2_eq, m3_eq, m4_eq, mu4_eq, mu3_ow, mu3_pn, mu2_eq, mu1_eq, mu0_eq, eMut_eq, sSeq_eq, seq1_nx, seq1_bk, seq1_ct, seq1_rt, sNil_eq, sBk_eq, sCt_eq, sRetN_eq, sE_eq, se1_eq, sRet_eq, sRetF_eq, sret1_eq, sRetOw_eq, sRetOw1_eq, sIf_eq, sif1_eq, sg2_eq, sG_eq, sg1_eq, okSet_eq, okk_none, okk_sh, okk_ow, gN_eq, sOw_eq, ow1_eq, sFz_eq, fz1_ow, fz1_sh, fz1_pn, fz1_no, stl3_eq, stl2_ow, stl2_pn, stl1_eq, sSetL_eq, sFor_eq, sfor1_eq, sWhile_eq, iL_eq, il1_eq, il2_eq, bOf_d, bOf_s, iR1_eq, ir1_eq, fn1_rt, fn1_nx, eCall_eq, eCallF_eq, cv1_eq, cv2_1, cv2_2, cv2_3, cv3_eq, cvE_eq, cvF_eq, eCallB_eq, cb0_eq, cb1_1, cb1_2, cb1_3, cb2_bl, cb2_int, cb2_str, eCallP_eq, eCallPF_eq, cp0_eq, cp1_eq, cp2_eq, cp3_ow0, cp3_ow1, cp3_ow2, cp3_pn0, cp3_pn1, cp3_pn2, cp4_eq, eLc_eq, lc2_eq, eDc_eq, dc2_eq, bnd_some, mp_some, gt0, gtS, st0, stS, if_true, if_false, if_pos, Bool.true_eq_false, Bool.false_eq_true, stl0_eq2, stk_eq, ix0, ix1, ix2, ix3, ix4, ixT0, ixT1, ixT2, addD_i, subD_i, ltD_i, ltD_s, leD_i, gtD_i, gtD_s, geD_i, powD_18, lenD_l, lenD_t, lenD_d, eqD_s, neD_s, eqD_i, neD_i, decide_eq_true_eq, ↓reduceIte, decide_true, decide_false, not_true_eq_false, not_false_eq_true, Bool.not_true, Bool.not_false, List.length_map, List.length_cons, List.length_nil, Int.reduceLT, Int.reduceLE, Int.reduceNeg, and_self, and_true, true_and, mulD_r, mulD_l, modD_i, fdivD_i, Int.reduceAdd, Nat.reduceAdd, ixN50, ixN51, ixN52, ixN53, ixN54, slL_eq, slL_scr, listD_l, cut_up, cut_last, cut_all, slS_eq, inD_ls, inD_keys, wipe0, wipe1, rest0, rest1, gd_some, gd_none, decide_not, Bool.not_eq_true', decide_eq_false_iff_not, Classical.not_not, gPop_eq, allB_eq, List.nil_append, pk4_eq, pk3_ow, pk3_pn, pk2_eq, pk1_s, pk1_i, pk0_eq, ePopK_eq, sk3_eq, sk2_s, sk2_i, sk1_eq, sk0_eq, sSetK_eq, listD_keys, neD_nil, dropD_keys, eq_self, isi_non_bool, isi_non_int, isi_non_str, isi_non_tuple, isi_non_list, isi_bl_bool, isi_bl_int, isi_bl_str, isi_bl_tuple, isi_bl_list, isi_int_bool, isi_int_int, isi_int_str, isi_int_tuple, isi_int_list, isi_str_bool, isi_str_int, isi_str_str, isi_str_tuple, isi_str_list, isi_tup_bool, isi_tup_int, isi_tup_str, isi_tup_tuple, isi_tup_list, isi_lst_bool, isi_lst_int, isi_lst_str, isi_lst_tuple, isi_lst_list, isN_non, isN_bl, isN_int, isN_str, isN_tup, isN_lst, eqD_b, neD_b, startsD_eq, anyB_map, allB_map, sumD_map, maxD1_map, notInD_ls, notInD_keys, gsNil_eq, gsCons_eq, gsk_eq, gT2_eq, gT3_eq, iZ_eq, iz0_eq, iz1_eq, iz2_eq, sPin_eq, pin0_ow, pin0_sh, unpin_eq, unp_pn, pin1_nx, pin1_rt, cut_to, cut_from1, eFld_eq, fd0_eq, fd1_eq, sFd_eq, sfd0_eq, sfd1_ow, sfd1_pn, sfd2_eq, eMeth_eq, eMethF_eq, me0_eq, me1_eq, me2_eq, me3_0, me3_1, me3_2, me3_3, eMethP_eq, eMethPF_eq, mp0_ow, mp0_pn, mp1_eq, eNew_eq, nw0_eq, nw1_0, nw1_1, nw1_2, nw2_eq, exEq_eq, xq0_eq, xq1_eq, xq2_eq, xq3_eq, iso_eq, iso1_t, iS_eq, is1_eq, is0_eq, iR2_eq, ir2a_eq, ir2c_eq, maxD2_i, inD_sign, lc1_go, lcc_eq, dc1_go, dcc_eq, now_nil, now_cons, now1_sh, now1_none, bsV_nil, bsV_cons, Bool.and_true, Bool.true_and, fld_b, fld_r, set_b0, set_r0, set_b1, set_r1, isC_end, hasM_settle0, hasM_settle, hasM_head, hasM_ring, hasM_first, hasM_signs, hasM_later, hasM_behind, hasM_below, hasM_under, hasM_begins, hasM_starts, hasM_before, nin_nil, nin_cons, Nat.reduceBNe])
local macro_rules | `(tactic| walk_at "eh") => `(tactic| simp only [eVar_eq, eVar_k1, eK_eq, oS_eq, oS_k1, oE_eq, oE_k1, fetch_d, fetch_s, fetch_k1, eOp2_eq, op2k1_eq, op2k2_eq, op2k3_eq, op2k4_eq, pr_some, aNil_eq, aC2_eq, aCons_eq, aC1_eq, fetchs_nil, fts2_eq, fetchs_cons, fts1_eq, eA_eq, eA1_eq, eA2_eq, allD_nil, allD_cons, eDisp_eq, eD1_eq, eD2_0, eD2_1, eD2_2, eD2_3, eD2_4, eD2_5, eD2_6, pNo_eq, pAt_eq, pAt1_eq, eSl_eq, sl1_eq, sl2_eq, sl3_eq, sl4_eq, eAnd_eq, and1_eq, eOr_eq, or1_eq, eNot_eq, not1_eq, eIf_eq, if1_eq, eNeg_eq, neg1_eq, eM_eq, m0_eq, m1_str, m1_lst, m2_eq, m3_eq, m4_eq, mu4_eq, mu3_ow, mu3_pn, mu2_eq, mu1_eq, mu0_eq, eMut_eq, sSeq_eq, seq1_nx, seq1_bk, seq1_ct, seq1_rt, sNil_eq, sBk_eq, sCt_eq, sRetN_eq, sE_eq, se1_eq, sRet_eq, sRetF_eq, sret1_eq, sRetOw_eq, sRetOw1_eq, sIf_eq, sif1_eq, sg2_eq, sG_eq, sg1_eq, okSet_eq, okk_none, okk_sh, okk_ow, gN_eq, sOw_eq, ow1_eq, sFz_eq, fz1_ow, fz1_sh, fz1_pn, fz1_no, stl3_eq, stl2_ow, stl2_pn, stl1_eq, sSetL_eq, sFor_eq, sfor1_eq, sWhile_eq, iL_eq, il1_eq, il2_eq, bOf_d, bOf_s, iR1_eq, ir1_eq, fn1_rt, fn1_nx, eCall_eq, eCallF_eq, cv1_eq, cv2_1, cv2_2, cv2_3, cv3_eq, cvE_eq, cvF_eq, eCallB_eq, cb0_eq, cb1_1, cb1_2, cb1_3, cb2_bl, cb2_int, cb2_str, eCallP_eq, eCallPF_eq, cp0_eq, cp1_eq, cp2_eq, cp3_ow0, cp3_ow1, cp3_ow2, cp3_pn0, cp3_pn1, cp3_pn2, cp4_eq, eLc_eq, lc2_eq, eDc_eq, dc2_eq, bnd_some, mp_some, gt0, gtS, st0, stS, if_true, if_false, if_pos, Bool.true_eq_false, Bool.false_eq_true, stl0_eq2, stk_eq, ix0, ix1, ix2, ix3, ix4, ixT0, ixT1, ixT2, addD_i, subD_i, ltD_i, ltD_s, leD_i, gtD_i, gtD_s, geD_i, powD_18, lenD_l, lenD_t, lenD_d, eqD_s, neD_s, eqD_i, neD_i, decide_eq_true_eq, ↓reduceIte, decide_true, decide_false, not_true_eq_false, not_false_eq_true, Bool.not_true, Bool.not_false, List.length_map, List.length_cons, List.length_nil, Int.reduceLT, Int.reduceLE, Int.reduceNeg, and_self, and_true, true_and, mulD_r, mulD_l, modD_i, fdivD_i, Int.reduceAdd, Nat.reduceAdd, ixN50, ixN51, ixN52, ixN53, ixN54, slL_eq, slL_scr, listD_l, cut_up, cut_last, cut_all, slS_eq, inD_ls, inD_keys, wipe0, wipe1, rest0, rest1, gd_some, gd_none, decide_not, Bool.not_eq_true', decide_eq_false_iff_not, Classical.not_not, gPop_eq, allB_eq, List.nil_append, pk4_eq, pk3_ow, pk3_pn, pk2_eq, pk1_s, pk1_i, pk0_eq, ePopK_eq, sk3_eq, sk2_s, sk2_i, sk1_eq, sk0_eq, sSetK_eq, listD_keys, neD_nil, dropD_keys, eq_self, isi_non_bool, isi_non_int, isi_non_str, isi_non_tuple, isi_non_list, isi_bl_bool, isi_bl_int, isi_bl_str, isi_bl_tuple, isi_bl_list, isi_int_bool, isi_int_int, isi_int_str, isi_int_tuple, isi_int_list, isi_str_bool, isi_str_int, isi_str_str, isi_str_tuple, isi_str_list, isi_tup_bool, isi_tup_int, isi_tup_str, isi_tup_tuple, isi_tup_list, isi_lst_bool, isi_lst_int, isi_lst_str, isi_lst_tuple, isi_lst_list, isN_non, isN_bl, isN_int, isN_str, isN_tup, isN_lst, eqD_b, neD_b, startsD_eq, anyB_map, allB_map, sumD_map, maxD1_map, notInD_ls, notInD_keys, gsNil_eq, gsCons_eq, gsk_eq, gT2_eq, gT3_eq, iZ_eq, iz0_eq, iz1_eq, iz2_eq, sPin_eq, pin0_ow, pin0_sh, unpin_eq, unp_pn, pin1_nx, pin1_rt, cut_to, cut_from1, eFld_eq, fd0_eq, fd1_eq, sFd_eq, sfd0_eq, sfd1_ow, sfd1_pn, sfd2_eq, eMeth_eq, eMethF_eq, me0_eq, me1_eq, me2_eq, me3_0, me3_1, me3_2, me3_3, eMethP_eq, eMethPF_eq, mp0_ow, mp0_pn, mp1_eq, eNew_eq, nw0_eq, nw1_0, nw1_1, nw1_2, nw2_eq, exEq_eq, xq0_eq, xq1_eq, xq2_eq, xq3_eq, iso_eq, iso1_t, iS_eq, is1_eq, is0_eq, iR2_eq, ir2a_eq, ir2c_eq, maxD2_i, inD_sign, lc1_go, lcc_eq, dc1_go, dcc_eq, now_nil, now_cons, now1_sh, now1_none, bsV_nil, bsV_cons, Bool.and_true, Bool.true_and, fld_b, fld_r, set_b0, set_r0, set_b1, set_r1, isC_end, hasM_settle0, hasM_settle, hasM_head, hasM_ring, hasM_first, hasM_signs, hasM_later, hasM_behind, hasM_below, hasM_under, hasM_begins, hasM_starts, hasM_before, nin_nil, nin_cons, Nat.reduceBNe, *])
theorem rep_mod {r : Wd} {k : Nat} (hk : k ≤ r.length) (h : rep r k) : r.length % k = 0 := Nat.mod_eq_zero_of_dvd (rep_dvd hk h)
theorem shortest_run (r : Wd) (h0 : 0 < r.length) (hr : r.length ≤ 5000) : fnF [.sh] 1 F_shortest_ring [.str r] = some (.ok false (.str (short r)) [.non]) := by
  apply W.eq
  rw [fnF_eq _ _ _ _ rfl]
  show W (fn1 [.sh] (F_shortest_ring [sv (.str r), none])) _
  unfold F_shortest_ring
  have h1 := lenD_s r (by omega)
  have n1 : -1000000000 ≤ (1 : Int) ∧ (1 : Int) < 1000000000 ∧ -1000000000 ≤ (r.length : Int) ∧ (r.length : Int) < 1000000000 := by omega
  have n2 := fun e => ir2d_eq 1 r.length e n1
  walk_at "eh"
  refine W.fnK (W.forK (fun items e => ∃ (k : Nat) (x : Option Sl), e = [sv (.str r), x] ∧ Sh x ∧ 0 < k ∧ items = rng (k : Int) (r.length - k) ∧ ∀ j, 0 < j → j < k → j < r.length → ¬ rep r j) ?_ ?_ ?_)
  · exact ⟨1, none, rfl, Sh.no, by omega, by congr 1; omega, fun j a b c => by omega⟩
  · rintro e ⟨k, x, rfl, sx, hk, hi, hno⟩
    have hl : r.length ≤ k := by
      have := congrArg List.length hi
      rw [rng_len] at this
      simp at this
      omega
    have hm : Min r r.length := ⟨h0, Nat.le_refl _, rep_self r h0, fun j a b => hno j a (by omega) b⟩
    have hs : short r = r := by rw [short_eq hm, List.take_length]
    refine ⟨rfl, ?_⟩
    walk_at "ev"
    rw [hs]
    exact W.ret (W.ret rfl)
  · rintro d ds e ⟨k, x, rfl, sx, hk, hi, hno⟩
    have hl : k < r.length := by
      have := congrArg List.length hi
      rw [rng_len] at this
      simp at this
      omega
    rw [show r.length - k = (r.length - (k + 1)) + 1 by omega, rng] at hi
    obtain ⟨rfl, rfl⟩ := List.cons.inj hi
    have o1 := sx.okk
    refine ⟨rfl, [sv (.str r), sv (.int (k : Int))], by walk_at "eh", ?_⟩
    have m1 := modD_i (r.length : Int) (k : Int) (by omega)
    have m2 := fdivD_i (r.length : Int) (k : Int) (by omega)
    have m3 : slS (.str r) none (some (k : Int)) = some (.str (r.take k)) := by rw [slS_eq _ _ _ (by omega), cut_to]
    have m4 := mulD_s (r.take k) (r.length / k) (by have := Nat.div_le_self r.length k; omega) (by
      rw [List.length_take, Nat.min_eq_left (by omega)]
      have := Nat.mul_div_le r.length k
      omega)
    rw [Int.natCast_ediv] at m4
    by_cases c : rep r k
    · have hz : (r.length : Int) % (k : Int) = 0 := by
        have := rep_mod (by omega) c
        omega
      have c2 : (List.replicate (r.length / k) (r.take k)).flatten = r := c
      have hm : Min r k := ⟨hk, by omega, c, fun j a b => hno j a b (by omega)⟩
      rw [short_eq hm]
      clear hno hm n1 n2
      rw [c2] at m4
      walk_at "eh"
      refine W.ret (Aft.rt ?_)
      walk_at "ev"
      exact W.ret (W.ret rfl)
    · have c2 : ¬ (List.replicate (r.length / k) (r.take k)).flatten = r := c
      have fin : ∃ (k_1 : Nat) (x : Option Sl), [sv (D.str r), sv (D.int (k : Int))] = [sv (D.str r), x] ∧ Sh x ∧ 0 < k_1 ∧ rng ((k : Int) + 1) (r.length - (k + 1)) = rng (k_1 : Int) (r.length - k_1) ∧ ∀ j, 0 < j → j < k_1 → j < r.length → ¬ rep r j := by
        refine ⟨k + 1, _, rfl, Sh.sh _, by omega, rfl, fun j a b d => ?_⟩
        by_cases e : j = k
        · rw [e]
          exact c
        · exact hno j a (by omega) d
      by_cases hz : (r.length : Int) % (k : Int) = 0
      · clear hno n1 n2
        walk_at "eh"
        exact W.ret (Aft.nx fin)
      · clear hno n1 n2
        walk_at "eh"
        exact W.ret (Aft.nx fin)
theorem snoc_of {h : Wd} (hn : h ≠ []) : ∃ u c, h = u ++ [c] := by
  rcases List.eq_nil_or_concat h with z | ⟨u, c, z⟩
  · exact absurd z hn
  · exact ⟨u, c, by rw [z, List.concat_eq_append]⟩
theorem roll_one {u v : Wd} {c : Nat} {X : Wd × Wd} (e : roll (u ++ [c]) (v ++ [c]) = X) : roll u (c :: v) = X := by rw [← e, roll_hit]
/-- the thing that settle is done on -/
def Eo (o : D) : Prop := o = .obj "Endless" [] ∨ ∃ a b, o = endD a b
theorem settle_run {g : FN} (hg : ∀ r : Wd, 0 < r.length → r.length ≤ 5000 → g [.str r] = some (.ok false (.str (short r)) [.non])) (o : D) (ho : Eo o) (h r : Wd) (h0 : 0 < r.length) (hr : r.length ≤ 5000) (hh : h.length ≤ 100000) : fnF [.pn, .sh, .sh] 0 (F_Endless__settle g) [o, .str h, .str r] = some (.ok false .non [endD (can h r).1 (can h r).2, .non, .non]) := by
  apply W.eq
  rw [fnF_eq _ _ _ _ rfl]
  show W (fn1 [.pn, .sh, .sh] (F_Endless__settle g [pv o, sv (.str h), sv (.str r)])) _
  unfold F_Endless__settle
  have h1 := hg r h0 hr
  walk_at "eh"
  obtain ⟨k, hk, es⟩ := short_min h0
  have hs0 : 0 < (short r).length := by rw [es, List.length_take]; have := hk.1; have := hk.2.1; omega
  have hs1 : (short r).length ≤ 5000 := by rw [es, List.length_take]; omega
  refine W.fnK (W.whK (fun n e => ∃ a b : Wd, e = [pv o, sv (.str a), sv (.str b)] ∧ n = a.length ∧ a.length ≤ 100000 ∧ 0 < b.length ∧ b.length ≤ 5000 ∧ roll a b = can h r) h.length (by unfold FU; omega) ⟨h, short r, rfl, rfl, hh, hs0, hs1, rfl⟩ ?_)
  rintro n e ⟨a, b, rfl, rfl, ha, hb0, hb1, hq⟩
  have fin : roll a b = (a, b) → W (seq1 (sSeq (sFd 0 "Endless" "begun" (eVar 1)) (sFd 0 "Endless" "round" (eVar 2))) (.nx [pv o, sv (.str a), sv (.str b)])) fun a_1 => W (fn1 [.pn, .sh, .sh] (some a_1)) fun r_1 => r_1 = .ok false .non [endD (can h r).1 (can h r).2, .non, .non] := fun z => by
    rw [← hq, z]
    clear h1 hg hq z
    rcases ho with rfl | ⟨x, y, rfl⟩
    · walk_at "ev"
      exact W.ret (W.ret rfl)
    · walk_at "ev"
      exact W.ret (W.ret rfl)
  by_cases c : a = []
  · subst c
    refine ⟨false, [pv o, sv (.str []), sv (.str b)], by walk_at "ev", ?_⟩
    rw [if_neg (by decide)]
    exact fin (roll_nil b)
  · obtain ⟨u, x, rfl⟩ := snoc_of c
    obtain ⟨v, y, rfl⟩ := snoc_of (show b ≠ [] from fun z => by rw [z] at hb0; simp at hb0)
    have l1 := ixS_last u x (by simp at ha; omega)
    have l2 := ixS_last v y (by simp at hb1; omega)
    by_cases q : x = y
    · subst q
      refine ⟨true, [pv o, sv (.str (u ++ [x])), sv (.str (v ++ [x]))], by walk_at "eh", ?_⟩
      rw [if_pos rfl]
      have l3 := slS_eq (v ++ [x]) none (some (-1)) (by omega)
      have l4 := slS_eq (u ++ [x]) none (some (-1)) (by omega)
      rw [cut_up, List.dropLast_concat] at l3 l4
      have l5 := addD_s [x] v (by simp at hb1 ⊢; omega)
      clear fin c
      walk_at "eh"
      refine W.ret (Aft.nx ⟨u.length, by simp, u, [x] ++ v, rfl, rfl, by simp at ha; omega, by simp, by simp at hb1 ⊢; omega, ?_⟩)
      rw [← hq, roll_hit]
      rfl
    · have hx : ¬ [x] = [y] := fun z => q (by simpa using z)
      refine ⟨false, [pv o, sv (.str (u ++ [x])), sv (.str (v ++ [y]))], by walk_at "eh", ?_⟩
      rw [if_neg (by decide)]
      exact fin (roll_no u _ x (by simpa using fun z => q z.symm))
theorem init_run {gn gs : FN} (hn : ∀ x : Wd, x.length ≤ 60 → Bin x → gn [.str x] = some (.ok false .non [.non])) (hs : ∀ (o : D), Eo o → ∀ (h r : Wd), 0 < r.length → r.length ≤ 5000 → h.length ≤ 100000 → gs [o, .str h, .str r] = some (.ok false .non [endD (can h r).1 (can h r).2, .non, .non])) (h r : Wd) (h0 : 0 < r.length) (hr : r.length ≤ 60) (hh : h.length ≤ 60) (bh : Bin h) (br : Bin r) : fnF [.pn, .sh, .sh] 0 (F_Endless____init__ gn gs) [.obj "Endless" [], .str h, .str r] = some (.ok false .non [endD (can h r).1 (can h r).2, .non, .non]) := by
  rw [fnF_eq _ _ _ _ rfl]
  show fn1 [.pn, .sh, .sh] (F_Endless____init__ gn gs [pv (.obj "Endless" []), sv (.str h), sv (.str r)]) = _
  unfold F_Endless____init__
  have a1 := hn h hh bh
  have a2 := hn r hr br
  have a3 := hs (.obj "Endless" []) (.inl rfl) h r h0 (by omega) (by omega)
  have a4 : ¬ r = [] := fun z => by rw [z] at h0; simp at h0
  walk_at "eh"
  rfl
theorem first_run (h r : Wd) (h0 : 0 < r.length) (hr : r.length ≤ 5000) (hh : h.length ≤ 100000) (n : Nat) (hn : n ≤ 100000) : fnF [.sh, .sh] 1 F_Endless__first [endD h r, .int (n : Int)] = some (.ok false (.str (pre (sgn h r) n)) [.non, .non]) := by
  rw [fnF_eq _ _ _ _ rfl]
  show fn1 [.sh, .sh] (F_Endless__first [sv (endD h r), sv (.int (n : Int)), none]) = _
  unfold F_Endless__first
  have a1 := lenD_s h (by omega)
  have a2 := lenD_s r (by omega)
  have a3 : (if (n : Int) - (h.length : Int) > 0 then (n : Int) - (h.length : Int) else 0) = ((n - h.length : Nat) : Int) := by
    split <;> omega
  have a4 := fdivD_i ((n - h.length : Nat) : Int) (r.length : Int) (by omega)
  have dl := Nat.div_le_self (n - h.length) r.length
  have hd : r.length * ((n - h.length) / r.length) ≤ n - h.length := Nat.mul_div_le _ _
  have hm : n - h.length < r.length * ((n - h.length) / r.length) + r.length := by
    have := Nat.lt_mul_div_succ (n - h.length) h0
    rw [Nat.mul_add, Nat.mul_one] at this
    exact this
  have a5 := mulD_s r ((n - h.length) / r.length + 1) (by omega) (by rw [Nat.mul_add, Nat.mul_one]; omega)
  have e5 : (((n - h.length) / r.length + 1 : Nat) : Int) = ((n - h.length : Nat) : Int) / (r.length : Int) + 1 := by
    rw [Int.natCast_add, Int.natCast_ediv]
    rfl
  rw [e5] at a5
  have a6 := addD_s h (List.replicate ((n - h.length) / r.length + 1) r).flatten (by rw [rep_len, Nat.add_mul, Nat.one_mul, Nat.mul_comm _ r.length]; omega)
  have a7 := slS_eq (h ++ (List.replicate ((n - h.length) / r.length + 1) r).flatten) none (some (n : Int)) (by rw [List.length_append, rep_len, Nat.add_mul, Nat.one_mul, Nat.mul_comm _ r.length]; omega)
  rw [cut_to, first_eq h r h0 _ n (by rw [Nat.add_mul, Nat.one_mul, Nat.mul_comm _ r.length]; omega)] at a7
  clear e5 dl hd hm hn hh hr
  walk_at "eh"
  rfl
/-- the first signs in which rows must differ -/
theorem before_run {g : FN} (hg : ∀ (h r : Wd), 0 < r.length → r.length ≤ 5000 → h.length ≤ 100000 → ∀ n : Nat, n ≤ 100000 → g [endD h r, .int (n : Int)] = some (.ok false (.str (pre (sgn h r) n)) [.non, .non])) (h1 r1 h2 r2 : Wd) (p1 : 0 < r1.length) (p2 : 0 < r2.length) (q1 : r1.length ≤ 5000) (q2 : r2.length ≤ 5000) (s1 : h1.length ≤ 50000) (s2 : h2.length ≤ 50000) : fnF [.sh, .sh] 1 (F_Endless__before g) [endD h1 r1, endD h2 r2] = some (.ok false (.bl (ltR (sgn h1 r1) (sgn h2 r2))) [.non, .non]) := by
  have key : ltR (sgn h1 r1) (sgn h2 r2) = decide (pre (sgn h1 r1) (max h1.length h2.length + r1.length + r2.length) < pre (sgn h2 r2) (max h1.length h2.length + r1.length + r2.length)) := by
    rw [Bool.eq_iff_iff, ltR_iff, decide_eq_true_iff, pre_lt_iff fun z => agree ((sgn_per h1 r1).ge (Nat.le_max_left _ _)) ((sgn_per h2 r2).ge (Nat.le_max_right _ _)) p1 p2 z]
  rw [key]
  have a1 := hg h1 r1 p1 q1 (by omega) (max h1.length h2.length + r1.length + r2.length) (by omega)
  have a2 := hg h2 r2 p2 q2 (by omega) (max h1.length h2.length + r1.length + r2.length) (by omega)
  have e : (((max h1.length h2.length + r1.length + r2.length : Nat)) : Int) = (if (h2.length : Int) > (h1.length : Int) then (h2.length : Int) else (h1.length : Int)) + r1.length + r2.length := by
    split <;> omega
  rw [e] at a1 a2
  have b1 := lenD_s h1 (by omega)
  have b2 := lenD_s h2 (by omega)
  have b3 := lenD_s r1 (by omega)
  have b4 := lenD_s r2 (by omega)
  clear e key hg
  rw [fnF_eq _ _ _ _ rfl]
  show fn1 [.sh, .sh] (F_Endless__before g [sv (endD h1 r1), sv (endD h2 r2), none]) = _
  unfold F_Endless__before
  walk_at "eh"
  rfl
theorem end_eq_run (h1 r1 h2 r2 : Wd) : fnF [.sh, .sh] 0 F_Endless____eq__ [endD h1 r1, endD h2 r2] = some (.ok false (.bl (decide (h1 = h2) && decide (r1 = r2))) [.non, .non]) := by
  rw [fnF_eq _ _ _ _ rfl]
  show fn1 [.sh, .sh] (F_Endless____eq__ [sv (endD h1 r1), sv (endD h2 r2)]) = _
  unfold F_Endless____eq__
  by_cases c : h1 = h2
  · walk_at "eh"
    rfl
  · walk_at "eh"
    rfl
end Lw
namespace Lw
open PySem PySem.Spec L2 Qd Qm
local macro_rules | `(tactic| walk_at "ev") => `(tactic| simp only [eVar_eq, eVar_k1, eK_eq, oS_eq, oS_k1, oE_eq, oE_k1, fetch_d, fetch_s, fetch_k1, eOp2_eq, op2k1_eq, op2k2_eq, op2k3_eq, op2k4_eq, pr_some, aNil_eq, aC2_eq, aCons_eq, aC1_eq, fetchs_nil, fts2_eq, fetchs_cons, fts1_eq, eA_eq, eA1_eq, eA2_eq, allD_nil, allD_cons, eDisp_eq, eD1_eq, eD2_0, eD2_1, eD2_2, eD2_3, eD2_4, eD2_5, eD2_6, pNo_eq, pAt_eq, pAt1_eq, eSl_eq, sl1_eq, sl2_eq, sl3_eq, sl4_eq, eAnd_eq, and1_eq, eOr_eq, or1_eq, eNot_eq, not1_eq, eIf_eq, if1_eq, eNeg_eq, neg1_eq, eM_eq, m0_eq, m1_str, m1_lst, m2_eq, m3_eq, m4_eq, mu4_eq, mu3_ow, mu3_pn, mu2_eq, mu1_eq, mu0_eq, eMut_eq, sSeq_eq, seq1_nx, seq1_bk, seq1_ct, seq1_rt, sNil_eq, sBk_eq, sCt_eq, sRetN_eq, sE_eq, se1_eq, sRet_eq, sRetF_eq, sret1_eq, sRetOw_eq, sRetOw1_eq, sIf_eq, sif1_eq, sg2_eq, sG_eq, sg1_eq, okSet_eq, okk_none, okk_sh, okk_ow, gN_eq, sOw_eq, ow1_eq, sFz_eq, fz1_ow, fz1_sh, fz1_pn, fz1_no, stl3_eq, stl2_ow, stl2_pn, stl1_eq, sSetL_eq, sFor_eq, sfor1_eq, sWhile_eq, iL_eq, il1_eq, il2_eq, bOf_d, bOf_s, iR1_eq, ir1_eq, fn1_rt, fn1_nx, eCall_eq, eCallF_eq, cv1_eq, cv2_1, cv2_2, cv2_3, cv3_eq, cvE_eq, cvF_eq, eCallB_eq, cb0_eq, cb1_1, cb1_2, cb1_3, cb2_bl, cb2_int, cb2_str, eCallP_eq, eCallPF_eq, cp0_eq, cp1_eq, cp2_eq, cp3_ow0, cp3_ow1, cp3_ow2, cp3_pn0, cp3_pn1, cp3_pn2, cp4_eq, eLc_eq, lc2_eq, eDc_eq, dc2_eq, bnd_some, mp_some, gt0, gtS, st0, stS, if_true, if_false, if_pos, Bool.true_eq_false, Bool.false_eq_true, stl0_eq2, stk_eq, ix0, ix1, ix2, ix3, ix4, ixT0, ixT1, ixT2, addD_i, subD_i, ltD_i, ltD_s, leD_i, gtD_i, gtD_s, geD_i, powD_18, lenD_l, lenD_t, lenD_d, eqD_s, neD_s, eqD_i, neD_i, decide_eq_true_eq, ↓reduceIte, decide_true, decide_false, not_true_eq_false, not_false_eq_true, Bool.not_true, Bool.not_false, List.length_map, List.length_cons, List.length_nil, Int.reduceLT, Int.reduceLE, Int.reduceNeg, and_self, and_true, true_and, mulD_r, mulD_l, modD_i, fdivD_i, Int.reduceAdd, Nat.reduceAdd, ixN50, ixN51, ixN52, ixN53, ixN54, slL_eq, slL_scr, listD_l, cut_up, cut_last, cut_all, slS_eq, inD_ls, inD_keys, wipe0, wipe1, rest0, rest1, gd_some, gd_none, decide_not, Bool.not_eq_true', decide_eq_false_iff_not, Classical.not_not, gPop_eq, allB_eq, List.nil_append, pk4_eq, pk3_ow, pk3_pn, pk2_eq, pk1_s, pk1_i, pk0_eq, ePopK_eq, sk3_eq, sk2_s, sk2_i, sk1_eq, sk0_eq, sSetK_eq, listD_keys, neD_nil, dropD_keys, eq_self, isi_non_bool, isi_non_int, isi_non_str, isi_non_tuple, isi_non_list, isi_bl_bool, isi_bl_int, isi_bl_str, isi_bl_tuple, isi_bl_list, isi_int_bool, isi_int_int, isi_int_str, isi_int_tuple, isi_int_list, isi_str_bool, isi_str_int, isi_str_str, isi_str_tuple, isi_str_list, isi_tup_bool, isi_tup_int, isi_tup_str, isi_tup_tuple, isi_tup_list, isi_lst_bool, isi_lst_int, isi_lst_str, isi_lst_tuple, isi_lst_list, isN_non, isN_bl, isN_int, isN_str, isN_tup, isN_lst, eqD_b, neD_b, startsD_eq, anyB_map, allB_map, sumD_map, maxD1_map, notInD_ls, notInD_keys, gsNil_eq, gsCons_eq, gsk_eq, gT2_eq, gT3_eq, iZ_eq, iz0_eq, iz1_eq, iz2_eq, sPin_eq, pin0_ow, pin0_sh, unpin_eq, unp_pn, pin1_nx, pin1_rt, cut_to, cut_from1, eFld_eq, fd0_eq, fd1_eq, sFd_eq, sfd0_eq, sfd1_ow, sfd1_pn, sfd2_eq, eMeth_eq, eMethF_eq, me0_eq, me1_eq, me2_eq, me3_0, me3_1, me3_2, me3_3, eMethP_eq, eMethPF_eq, mp0_ow, mp0_pn, mp1_eq, eNew_eq, nw0_eq, nw1_0, nw1_1, nw1_2, nw2_eq, exEq_eq, xq0_eq, xq1_eq, xq2_eq, xq3_eq, iso_eq, iso1_t, iS_eq, is1_eq, is0_eq, iR2_eq, ir2a_eq, ir2c_eq, maxD2_i, inD_sign, lc1_go, lcc_eq, dc1_go, dcc_eq, now_nil, now_cons, now1_sh, now1_none, bsV_nil, bsV_cons, Bool.and_true, Bool.true_and, fld_b, fld_r, set_b0, set_r0, set_b1, set_r1, isC_end, hasM_settle0, hasM_settle, hasM_head, hasM_ring, hasM_first, hasM_signs, hasM_later, hasM_behind, hasM_below, hasM_under, hasM_begins, hasM_starts, hasM_before, nin_nil, nin_cons, Nat.reduceBNe])
local macro_rules | `(tactic| walk_at "eh") => `(tactic| simp only [eVar_eq, eVar_k1, eK_eq, oS_eq, oS_k1, oE_eq, oE_k1, fetch_d, fetch_s, fetch_k1, eOp2_eq, op2k1_eq, op2k2_eq, op2k3_eq, op2k4_eq, pr_some, aNil_eq, aC2_eq, aCons_eq, aC1_eq, fetchs_nil, fts2_eq, fetchs_cons, fts1_eq, eA_eq, eA1_eq, eA2_eq, allD_nil, allD_cons, eDisp_eq, eD1_eq, eD2_0, eD2_1, eD2_2, eD2_3, eD2_4, eD2_5, eD2_6, pNo_eq, pAt_eq, pAt1_eq, eSl_eq, sl1_eq, sl2_eq, sl3_eq, sl4_eq, eAnd_eq, and1_eq, eOr_eq, or1_eq, eNot_eq, not1_eq, eIf_eq, if1_eq, eNeg_eq, neg1_eq, eM_eq, m0_eq, m1_str, m1_lst, m2_eq, m3_eq, m4_eq, mu4_eq, mu3_ow, mu3_pn, mu2_eq, mu1_eq, mu0_eq, eMut_eq, sSeq_eq, seq1_nx, seq1_bk, seq1_ct, seq1_rt, sNil_eq, sBk_eq, sCt_eq, sRetN_eq, sE_eq, se1_eq, sRet_eq, sRetF_eq, sret1_eq, sRetOw_eq, sRetOw1_eq, sIf_eq, sif1_eq, sg2_eq, sG_eq, sg1_eq, okSet_eq, okk_none, okk_sh, okk_ow, gN_eq, sOw_eq, ow1_eq, sFz_eq, fz1_ow, fz1_sh, fz1_pn, fz1_no, stl3_eq, stl2_ow, stl2_pn, stl1_eq, sSetL_eq, sFor_eq, sfor1_eq, sWhile_eq, iL_eq, il1_eq, il2_eq, bOf_d, bOf_s, iR1_eq, ir1_eq, fn1_rt, fn1_nx, eCall_eq, eCallF_eq, cv1_eq, cv2_1, cv2_2, cv2_3, cv3_eq, cvE_eq, cvF_eq, eCallB_eq, cb0_eq, cb1_1, cb1_2, cb1_3, cb2_bl, cb2_int, cb2_str, eCallP_eq, eCallPF_eq, cp0_eq, cp1_eq, cp2_eq, cp3_ow0, cp3_ow1, cp3_ow2, cp3_pn0, cp3_pn1, cp3_pn2, cp4_eq, eLc_eq, lc2_eq, eDc_eq, dc2_eq, bnd_some, mp_some, gt0, gtS, st0, stS, if_true, if_false, if_pos, Bool.true_eq_false, Bool.false_eq_true, stl0_eq2, stk_eq, ix0, ix1, ix2, ix3, ix4, ixT0, ixT1, ixT2, addD_i, subD_i, ltD_i, ltD_s, leD_i, gtD_i, gtD_s, geD_i, powD_18, lenD_l, lenD_t, lenD_d, eqD_s, neD_s, eqD_i, neD_i, decide_eq_true_eq, ↓reduceIte, decide_true, decide_false, not_true_eq_false, not_false_eq_true, Bool.not_true, Bool.not_false, List.length_map, List.length_cons, List.length_nil, Int.reduceLT, Int.reduceLE, Int.reduceNeg, and_self, and_true, true_and, mulD_r, mulD_l, modD_i, fdivD_i, Int.reduceAdd, Nat.reduceAdd, ixN50, ixN51, ixN52, ixN53, ixN54, slL_eq, slL_scr, listD_l, cut_up, cut_last, cut_all, slS_eq, inD_ls, inD_keys, wipe0, wipe1, rest0, rest1, gd_some, gd_none, decide_not, Bool.not_eq_true', decide_eq_false_iff_not, Classical.not_not, gPop_eq, allB_eq, List.nil_append, pk4_eq, pk3_ow, pk3_pn, pk2_eq, pk1_s, pk1_i, pk0_eq, ePopK_eq, sk3_eq, sk2_s, sk2_i, sk1_eq, sk0_eq, sSetK_eq, listD_keys, neD_nil, dropD_keys, eq_self, isi_non_bool, isi_non_int, isi_non_str, isi_non_tuple, isi_non_list, isi_bl_bool, isi_bl_int, isi_bl_str, isi_bl_tuple, isi_bl_list, isi_int_bool, isi_int_int, isi_int_str, isi_int_tuple, isi_int_list, isi_str_bool, isi_str_int, isi_str_str, isi_str_tuple, isi_str_list, isi_tup_bool, isi_tup_int, isi_tup_str, isi_tup_tuple, isi_tup_list, isi_lst_bool, isi_lst_int, isi_lst_str, isi_lst_tuple, isi_lst_list, isN_non, isN_bl, isN_int, isN_str, isN_tup, isN_lst, eqD_b, neD_b, startsD_eq, anyB_map, allB_map, sumD_map, maxD1_map, notInD_ls, notInD_keys, gsNil_eq, gsCons_eq, gsk_eq, gT2_eq, gT3_eq, iZ_eq, iz0_eq, iz1_eq, iz2_eq, sPin_eq, pin0_ow, pin0_sh, unpin_eq, unp_pn, pin1_nx, pin1_rt, cut_to, cut_from1, eFld_eq, fd0_eq, fd1_eq, sFd_eq, sfd0_eq, sfd1_ow, sfd1_pn, sfd2_eq, eMeth_eq, eMethF_eq, me0_eq, me1_eq, me2_eq, me3_0, me3_1, me3_2, me3_3, eMethP_eq, eMethPF_eq, mp0_ow, mp0_pn, mp1_eq, eNew_eq, nw0_eq, nw1_0, nw1_1, nw1_2, nw2_eq, exEq_eq, xq0_eq, xq1_eq, xq2_eq, xq3_eq, iso_eq, iso1_t, iS_eq, is1_eq, is0_eq, iR2_eq, ir2a_eq, ir2c_eq, maxD2_i, inD_sign, lc1_go, lcc_eq, dc1_go, dcc_eq, now_nil, now_cons, now1_sh, now1_none, bsV_nil, bsV_cons, Bool.and_true, Bool.true_and, fld_b, fld_r, set_b0, set_r0, set_b1, set_r1, isC_end, hasM_settle0, hasM_settle, hasM_head, hasM_ring, hasM_first, hasM_signs, hasM_later, hasM_behind, hasM_below, hasM_under, hasM_begins, hasM_starts, hasM_before, nin_nil, nin_cons, Nat.reduceBNe, *])
def tupD (h r : Wd) : D := .tup [.str h, .str r]
theorem ix_t0 (h r : Wd) : ixD (tupD h r) (.int 0) = some (.str h) := ixT0 _ _
theorem ix_t1 (h r : Wd) : ixD (tupD h r) (.int 1) = some (.str r) := ixT1 _ _ _
theorem plain_run (h r : Wd) (h0 : 0 < r.length) (hr : r.length ≤ 5000) (hh : h.length ≤ 100000) : fnF [.sh, .sh] 2 F__law_plain [.str h, .str r] = some (.ok false (tupD (can h r).1 (can h r).2) [.non, .non]) := by
  apply W.eq
  rw [fnF_eq _ _ _ _ rfl]
  show W (fn1 [.sh, .sh] (F__law_plain [sv (.str h), sv (.str r), none, none])) _
  unfold F__law_plain
  have h1 := lenD_s r (by omega)
  have n1 : -1000000000 ≤ (1 : Int) ∧ (1 : Int) < 1000000000 ∧ -1000000000 ≤ (r.length : Int) + 1 ∧ (r.length : Int) + 1 < 1000000000 := by omega
  have n2 := fun e => ir2d_eq 1 ((r.length : Int) + 1) e n1
  walk_at "eh"
  have e1 : rng 1 ((r.length : Int) + 1 - 1).toNat = (List.range' 1 r.length).map fun (i : Nat) => D.int (i : Int) := by
    rw [show ((r.length : Int) + 1 - 1).toNat = r.length by omega]
    exact rng_map 1 r.length
  rw [e1]
  rw [lcL_filter (fun (i : Nat) => D.int (i : Int)) (fun k => decide (rep r k)) (fun (i : Nat) => D.int (i : Int)) rfl (List.range' 1 r.length) [] (by simp; omega) fun k hk => ⟨[sv (.str h), sv (.str r), none, sv (.int (k : Int))], by walk_at "ev", ?_, fun _ => by walk_at "ev", by walk_at "ev"⟩]
  · obtain ⟨k, hk⟩ := exists_min r h0
    have hm : Min r k := hk
    have hf : ∃ l, (List.range' 1 r.length).filter (fun k => decide (rep r k)) = k :: l := by
      have hm2 : k ∈ (List.range' 1 r.length).filter (fun k => decide (rep r k)) := by
        rw [List.mem_filter, List.mem_range'_1]
        exact ⟨⟨hm.1, by have := hm.2.1; omega⟩, decide_eq_true hm.2.2.1⟩
      cases hq : (List.range' 1 r.length).filter (fun k => decide (rep r k)) with
      | nil =>
        rw [hq] at hm2
        simp at hm2
      | cons j l =>
        have hj : j ∈ (List.range' 1 r.length).filter (fun k => decide (rep r k)) := by rw [hq]; simp
        rw [List.mem_filter, List.mem_range'_1] at hj
        have hjr := of_decide_eq_true hj.2
        have pw : ((List.range' 1 r.length).filter (fun k => decide (rep r k))).Pairwise (· < ·) := (List.pairwise_lt_range' (s := 1) (n := r.length)).filter _
        rw [hq] at pw hm2
        have : j ≤ k := by
          rcases List.mem_cons.mp hm2 with z | z
          · omega
          · have := (List.pairwise_cons.mp pw).1 k z
            omega
        have : ¬ j < k := fun z => hm.2.2.2 j (by omega) z hjr
        exact ⟨l, by rw [show j = k by omega]⟩
    obtain ⟨l, hf⟩ := hf
    have sl : slS (.str r) none (some (k : Int)) = some (.str (short r)) := by rw [slS_eq _ _ _ (by omega), cut_to, short_eq hm]
    rw [hf, List.nil_append, List.map_cons]
    clear n1 n2 e1 hf
    walk_at "eh"
    have hs0 : 0 < (short r).length := by rw [short_eq hm, List.length_take]; have := hk.1; have := hk.2.1; omega
    have hs1 : (short r).length ≤ 5000 := by rw [short_eq hm, List.length_take]; omega
    refine W.fnK (W.whK (fun n e => ∃ a b : Wd, ∃ x2 x3, e = [sv (.str a), sv (.str b), x2, x3] ∧ n = a.length ∧ a.length ≤ 100000 ∧ 0 < b.length ∧ b.length ≤ 5000 ∧ roll a b = can h r) h.length (by unfold FU; omega) ⟨h, short r, _, _, rfl, rfl, hh, hs0, hs1, rfl⟩ ?_)
    rintro n e ⟨a, b, x2, x3, rfl, rfl, ha, hb0, hb1, hq⟩
    have fin : roll a b = (a, b) → W (seq1 (sRet (eDisp .tup (aCons (oE (eVar 0)) (aCons (oE (eVar 1)) aNil)))) (.nx [sv (.str a), sv (.str b), x2, x3])) fun a_1 => W (fn1 [.sh, .sh] (some a_1)) fun r_1 => r_1 = .ok false (tupD (can h r).1 (can h r).2) [.non, .non] := fun z => by
      rw [← hq, z]
      walk_at "ev"
      exact W.ret (W.ret rfl)
    by_cases c : a = []
    · subst c
      refine ⟨false, [sv (.str []), sv (.str b), x2, x3], by walk_at "ev", ?_⟩
      rw [if_neg (by decide)]
      exact fin (roll_nil b)
    · obtain ⟨u, x, rfl⟩ := snoc_of c
      obtain ⟨v, y, rfl⟩ := snoc_of (show b ≠ [] from fun z => by rw [z] at hb0; simp at hb0)
      have l1 := ixS_last u x (by simp at ha; omega)
      have l2 := ixS_last v y (by simp at hb1; omega)
      clear h1 sl
      by_cases q : x = y
      · subst q
        refine ⟨true, [sv (.str (u ++ [x])), sv (.str (v ++ [x])), x2, x3], by walk_at "eh", ?_⟩
        rw [if_pos rfl]
        have l3 := slS_eq (v ++ [x]) none (some (-1)) (by omega)
        have l4 := slS_eq (u ++ [x]) none (some (-1)) (by omega)
        rw [cut_up, List.dropLast_concat] at l3 l4
        have l5 := addD_s [x] v (by simp at hb1 ⊢; omega)
        clear fin c
        walk_at "eh"
        refine W.ret (Aft.nx ⟨u.length, by simp, u, [x] ++ v, x2, x3, rfl, rfl, by simp at ha; omega, by simp, by simp at hb1 ⊢; omega, ?_⟩)
        rw [← hq, roll_hit]
        rfl
      · have hx : ¬ [x] = [y] := fun z => q (by simpa using z)
        refine ⟨false, [sv (.str (u ++ [x])), sv (.str (v ++ [y])), x2, x3], by walk_at "eh", ?_⟩
        rw [if_neg (by decide)]
        exact fin (roll_no u _ x (by simpa using fun z => q z.symm))
  · rw [List.mem_range'_1] at hk
    have m2 := fdivD_i (r.length : Int) (k : Int) (by omega)
    have m3 : slS (.str r) none (some (k : Int)) = some (.str (r.take k)) := by rw [slS_eq _ _ _ (by omega), cut_to]
    have m4 := mulD_s (r.take k) (r.length / k) (by have := Nat.div_le_self r.length k; omega) (by
      rw [List.length_take, Nat.min_eq_left (by omega)]
      have := Nat.mul_div_le r.length k
      omega)
    rw [Int.natCast_ediv] at m4
    clear n1 n2 e1
    walk_at "eh"
    rfl
theorem lfirst_run (h r : Wd) (h0 : 0 < r.length) (hr : r.length ≤ 5000) (hh : h.length ≤ 100000) (n : Nat) (hn : n ≤ 100000) : fnF [.sh, .sh] 0 F__law_first [tupD h r, .int (n : Int)] = some (.ok false (.str (pre (sgn h r) n)) [.non, .non]) := by
  rw [fnF_eq _ _ _ _ rfl]
  show fn1 [.sh, .sh] (F__law_first [sv (tupD h r), sv (.int (n : Int))]) = _
  unfold F__law_first
  have t0 := ix_t0 h r
  have t1 := ix_t1 h r
  have a2 := lenD_s r (by omega)
  have a4 := fdivD_i (n : Int) (r.length : Int) (by omega)
  have dl := Nat.div_le_self n r.length
  have hd : r.length * (n / r.length) ≤ n := Nat.mul_div_le _ _
  have hm : n < r.length * (n / r.length) + r.length := by
    have := Nat.lt_mul_div_succ n h0
    rw [Nat.mul_add, Nat.mul_one] at this
    exact this
  have a5 := mulD_s r (n / r.length + 1) (by omega) (by rw [Nat.mul_add, Nat.mul_one]; omega)
  have e5 : ((n / r.length + 1 : Nat) : Int) = (n : Int) / (r.length : Int) + 1 := by
    rw [Int.natCast_add, Int.natCast_ediv]
    rfl
  rw [e5] at a5
  have a6 := addD_s h (List.replicate (n / r.length + 1) r).flatten (by rw [rep_len, Nat.add_mul, Nat.one_mul, Nat.mul_comm _ r.length]; omega)
  have a7 := slS_eq (h ++ (List.replicate (n / r.length + 1) r).flatten) none (some (n : Int)) (by rw [List.length_append, rep_len, Nat.add_mul, Nat.one_mul, Nat.mul_comm _ r.length]; omega)
  rw [cut_to, first_eq h r h0 _ n (by rw [Nat.add_mul, Nat.one_mul, Nat.mul_comm _ r.length]; omega)] at a7
  clear e5 dl hd hm hn hh hr
  walk_at "eh"
  rfl
end Lw
namespace Lw
open PySem PySem.Spec L2 Qd Qm
local macro_rules | `(tactic| walk_at "ev") => `(tactic| simp only [eVar_eq, eVar_k1, eK_eq, oS_eq, oS_k1, oE_eq, oE_k1, fetch_d, fetch_s, fetch_k1, eOp2_eq, op2k1_eq, op2k2_eq, op2k3_eq, op2k4_eq, pr_some, aNil_eq, aC2_eq, aCons_eq, aC1_eq, fetchs_nil, fts2_eq, fetchs_cons, fts1_eq, eA_eq, eA1_eq, eA2_eq, allD_nil, allD_cons, eDisp_eq, eD1_eq, eD2_0, eD2_1, eD2_2, eD2_3, eD2_4, eD2_5, eD2_6, pNo_eq, pAt_eq, pAt1_eq, eSl_eq, sl1_eq, sl2_eq, sl3_eq, sl4_eq, eAnd_eq, and1_eq, eOr_eq, or1_eq, eNot_eq, not1_eq, eIf_eq, if1_eq, eNeg_eq, neg1_eq, eM_eq, m0_eq, m1_str, m1_lst, m2_eq, m3_eq, m4_eq, mu4_eq, mu3_ow, mu3_pn, mu2_eq, mu1_eq, mu0_eq, eMut_eq, sSeq_eq, seq1_nx, seq1_bk, seq1_ct, seq1_rt, sNil_eq, sBk_eq, sCt_eq, sRetN_eq, sE_eq, se1_eq, sRet_eq, sRetF_eq, sret1_eq, sRetOw_eq, sRetOw1_eq, sIf_eq, sif1_eq, sg2_eq, sG_eq, sg1_eq, okSet_eq, okk_none, okk_sh, okk_ow, gN_eq, sOw_eq, ow1_eq, sFz_eq, fz1_ow, fz1_sh, fz1_pn, fz1_no, stl3_eq, stl2_ow, stl2_pn, stl1_eq, sSetL_eq, sFor_eq, sfor1_eq, sWhile_eq, iL_eq, il1_eq, il2_eq, bOf_d, bOf_s, iR1_eq, ir1_eq, fn1_rt, fn1_nx, eCall_eq, eCallF_eq, cv1_eq, cv2_1, cv2_2, cv2_3, cv3_eq, cvE_eq, cvF_eq, eCallB_eq, cb0_eq, cb1_1, cb1_2, cb1_3, cb2_bl, cb2_int, cb2_str, eCallP_eq, eCallPF_eq, cp0_eq, cp1_eq, cp2_eq, cp3_ow0, cp3_ow1, cp3_ow2, cp3_pn0, cp3_pn1, cp3_pn2, cp4_eq, eLc_eq, lc2_eq, eDc_eq, dc2_eq, bnd_some, mp_some, gt0, gtS, st0, stS, if_true, if_false, if_pos, Bool.true_eq_false, Bool.false_eq_true, stl0_eq2, stk_eq, ix0, ix1, ix2, ix3, ix4, ixT0, ixT1, ixT2, addD_i, subD_i, ltD_i, ltD_s, leD_i, gtD_i, gtD_s, geD_i, powD_18, lenD_l, lenD_t, lenD_d, eqD_s, neD_s, eqD_i, neD_i, decide_eq_true_eq, ↓reduceIte, decide_true, decide_false, not_true_eq_false, not_false_eq_true, Bool.not_true, Bool.not_false, List.length_map, List.length_cons, List.length_nil, Int.reduceLT, Int.reduceLE, Int.reduceNeg, and_self, and_true, true_and, mulD_r, mulD_l, modD_i, fdivD_i, Int.reduceAdd, Nat.reduceAdd, ixN50, ixN51, ixN52, ixN53, ixN54, slL_eq, slL_scr, listD_l, cut_up, cut_last, cut_all, slS_eq, inD_ls, inD_keys, wipe0, wipe1, rest0, rest1, gd_some, gd_none, decide_not, Bool.not_eq_true', decide_eq_false_iff_not, Classical.not_not, gPop_eq, allB_eq, List.nil_append, pk4_eq, pk3_ow, pk3_pn, pk2_eq, pk1_s, pk1_i, pk0_eq, ePopK_eq, sk3_eq, sk2_s, sk2_i, sk1_eq, sk0_eq, sSetK_eq, listD_keys, neD_nil, dropD_keys, eq_self, isi_non_bool, isi_non_int, isi_non_str, isi_non_tuple, isi_non_list, isi_bl_bool, isi_bl_int, isi_bl_str, isi_bl_tuple, isi_bl_list, isi_int_bool, isi_int_int, isi_int_str, isi_int_tuple, isi_int_list, isi_str_bool, isi_str_int, isi_str_str, isi_str_tuple, isi_str_list, isi_tup_bool, isi_tup_int, isi_tup_str, isi_tup_tuple, isi_tup_list, isi_lst_bool, isi_lst_int, isi_lst_str, isi_lst_tuple, isi_lst_list, isN_non, isN_bl, isN_int, isN_str, isN_tup, isN_lst, eqD_b, neD_b, startsD_eq, anyB_map, allB_map, sumD_map, maxD1_map, notInD_ls, notInD_keys, gsNil_eq, gsCons_eq, gsk_eq, gT2_eq, gT3_eq, iZ_eq, iz0_eq, iz1_eq, iz2_eq, sPin_eq, pin0_ow, pin0_sh, unpin_eq, unp_pn, pin1_nx, pin1_rt, cut_to, cut_from1, eFld_eq, fd0_eq, fd1_eq, sFd_eq, sfd0_eq, sfd1_ow, sfd1_pn, sfd2_eq, eMeth_eq, eMethF_eq, me0_eq, me1_eq, me2_eq, me3_0, me3_1, me3_2, me3_3, eMethP_eq, eMethPF_eq, mp0_ow, mp0_pn, mp1_eq, eNew_eq, nw0_eq, nw1_0, nw1_1, nw1_2, nw2_eq, exEq_eq, xq0_eq, xq1_eq, xq2_eq, xq3_eq, iso_eq, iso1_t, iS_eq, is1_eq, is0_eq, iR2_eq, ir2a_eq, ir2c_eq, maxD2_i, inD_sign, lc1_go, lcc_eq, dc1_go, dcc_eq, now_nil, now_cons, now1_sh, now1_none, bsV_nil, bsV_cons, Bool.and_true, Bool.true_and, fld_b, fld_r, set_b0, set_r0, set_b1, set_r1, isC_end, hasM_settle0, hasM_settle, hasM_head, hasM_ring, hasM_first, hasM_signs, hasM_later, hasM_behind, hasM_below, hasM_under, hasM_begins, hasM_starts, hasM_before, nin_nil, nin_cons, Nat.reduceBNe])
local macro_rules | `(tactic| walk_at "eh") => `(tactic| simp only [eVar_eq, eVar_k1, eK_eq, oS_eq, oS_k1, oE_eq, oE_k1, fetch_d, fetch_s, fetch_k1, eOp2_eq, op2k1_eq, op2k2_eq, op2k3_eq, op2k4_eq, pr_some, aNil_eq, aC2_eq, aCons_eq, aC1_eq, fetchs_nil, fts2_eq, fetchs_cons, fts1_eq, eA_eq, eA1_eq, eA2_eq, allD_nil, allD_cons, eDisp_eq, eD1_eq, eD2_0, eD2_1, eD2_2, eD2_3, eD2_4, eD2_5, eD2_6, pNo_eq, pAt_eq, pAt1_eq, eSl_eq, sl1_eq, sl2_eq, sl3_eq, sl4_eq, eAnd_eq, and1_eq, eOr_eq, or1_eq, eNot_eq, not1_eq, eIf_eq, if1_eq, eNeg_eq, neg1_eq, eM_eq, m0_eq, m1_str, m1_lst, m2_eq, m3_eq, m4_eq, mu4_eq, mu3_ow, mu3_pn, mu2_eq, mu1_eq, mu0_eq, eMut_eq, sSeq_eq, seq1_nx, seq1_bk, seq1_ct, seq1_rt, sNil_eq, sBk_eq, sCt_eq, sRetN_eq, sE_eq, se1_eq, sRet_eq, sRetF_eq, sret1_eq, sRetOw_eq, sRetOw1_eq, sIf_eq, sif1_eq, sg2_eq, sG_eq, sg1_eq, okSet_eq, okk_none, okk_sh, okk_ow, gN_eq, sOw_eq, ow1_eq, sFz_eq, fz1_ow, fz1_sh, fz1_pn, fz1_no, stl3_eq, stl2_ow, stl2_pn, stl1_eq, sSetL_eq, sFor_eq, sfor1_eq, sWhile_eq, iL_eq, il1_eq, il2_eq, bOf_d, bOf_s, iR1_eq, ir1_eq, fn1_rt, fn1_nx, eCall_eq, eCallF_eq, cv1_eq, cv2_1, cv2_2, cv2_3, cv3_eq, cvE_eq, cvF_eq, eCallB_eq, cb0_eq, cb1_1, cb1_2, cb1_3, cb2_bl, cb2_int, cb2_str, eCallP_eq, eCallPF_eq, cp0_eq, cp1_eq, cp2_eq, cp3_ow0, cp3_ow1, cp3_ow2, cp3_pn0, cp3_pn1, cp3_pn2, cp4_eq, eLc_eq, lc2_eq, eDc_eq, dc2_eq, bnd_some, mp_some, gt0, gtS, st0, stS, if_true, if_false, if_pos, Bool.true_eq_false, Bool.false_eq_true, stl0_eq2, stk_eq, ix0, ix1, ix2, ix3, ix4, ixT0, ixT1, ixT2, addD_i, subD_i, ltD_i, ltD_s, leD_i, gtD_i, gtD_s, geD_i, powD_18, lenD_l, lenD_t, lenD_d, eqD_s, neD_s, eqD_i, neD_i, decide_eq_true_eq, ↓reduceIte, decide_true, decide_false, not_true_eq_false, not_false_eq_true, Bool.not_true, Bool.not_false, List.length_map, List.length_cons, List.length_nil, Int.reduceLT, Int.reduceLE, Int.reduceNeg, and_self, and_true, true_and, mulD_r, mulD_l, modD_i, fdivD_i, Int.reduceAdd, Nat.reduceAdd, ixN50, ixN51, ixN52, ixN53, ixN54, slL_eq, slL_scr, listD_l, cut_up, cut_last, cut_all, slS_eq, inD_ls, inD_keys, wipe0, wipe1, rest0, rest1, gd_some, gd_none, decide_not, Bool.not_eq_true', decide_eq_false_iff_not, Classical.not_not, gPop_eq, allB_eq, List.nil_append, pk4_eq, pk3_ow, pk3_pn, pk2_eq, pk1_s, pk1_i, pk0_eq, ePopK_eq, sk3_eq, sk2_s, sk2_i, sk1_eq, sk0_eq, sSetK_eq, listD_keys, neD_nil, dropD_keys, eq_self, isi_non_bool, isi_non_int, isi_non_str, isi_non_tuple, isi_non_list, isi_bl_bool, isi_bl_int, isi_bl_str, isi_bl_tuple, isi_bl_list, isi_int_bool, isi_int_int, isi_int_str, isi_int_tuple, isi_int_list, isi_str_bool, isi_str_int, isi_str_str, isi_str_tuple, isi_str_list, isi_tup_bool, isi_tup_int, isi_tup_str, isi_tup_tuple, isi_tup_list, isi_lst_bool, isi_lst_int, isi_lst_str, isi_lst_tuple, isi_lst_list, isN_non, isN_bl, isN_int, isN_str, isN_tup, isN_lst, eqD_b, neD_b, startsD_eq, anyB_map, allB_map, sumD_map, maxD1_map, notInD_ls, notInD_keys, gsNil_eq, gsCons_eq, gsk_eq, gT2_eq, gT3_eq, iZ_eq, iz0_eq, iz1_eq, iz2_eq, sPin_eq, pin0_ow, pin0_sh, unpin_eq, unp_pn, pin1_nx, pin1_rt, cut_to, cut_from1, eFld_eq, fd0_eq, fd1_eq, sFd_eq, sfd0_eq, sfd1_ow, sfd1_pn, sfd2_eq, eMeth_eq, eMethF_eq, me0_eq, me1_eq, me2_eq, me3_0, me3_1, me3_2, me3_3, eMethP_eq, eMethPF_eq, mp0_ow, mp0_pn, mp1_eq, eNew_eq, nw0_eq, nw1_0, nw1_1, nw1_2, nw2_eq, exEq_eq, xq0_eq, xq1_eq, xq2_eq, xq3_eq, iso_eq, iso1_t, iS_eq, is1_eq, is0_eq, iR2_eq, ir2a_eq, ir2c_eq, maxD2_i, inD_sign, lc1_go, lcc_eq, dc1_go, dcc_eq, now_nil, now_cons, now1_sh, now1_none, bsV_nil, bsV_cons, Bool.and_true, Bool.true_and, fld_b, fld_r, set_b0, set_r0, set_b1, set_r1, isC_end, hasM_settle0, hasM_settle, hasM_head, hasM_ring, hasM_first, hasM_signs, hasM_later, hasM_behind, hasM_below, hasM_under, hasM_begins, hasM_starts, hasM_before, nin_nil, nin_cons, Nat.reduceBNe, *])
/-- a row drawn: its plain form -/
def Row (n : Nat) (p : Wd × Wd) : Prop := Can p.1 p.2 ∧ Bin p.1 ∧ Bin p.2 ∧ p.1.length ≤ n ∧ p.2.length ≤ n
theorem bin_short {r : Wd} (h : Bin r) (h0 : 0 < r.length) : Bin (short r) := by
  obtain ⟨k, _, e⟩ := short_min h0
  rw [e]
  exact fun c hc => h c (List.mem_of_mem_take hc)
theorem bin_rollR : ∀ (t : List Nat) (r : Wd), Bin t → Bin r → Bin (rollR t r).1 ∧ Bin (rollR t r).2
  | [], r, _, h => ⟨Qm.Bin.nil, h⟩
  | c :: t, r, ht, h => by
    unfold rollR
    split
    · refine bin_rollR t _ (fun x hx => ht x (by simp [hx])) fun x hx => ?_
      rcases List.mem_cons.mp hx with z | z
      · exact ht x (by simp [z])
      · exact h x (List.dropLast_subset _ z)
    · exact ⟨fun x hx => ht x (List.mem_reverse.mp hx), h⟩
theorem bin_can {h r : Wd} (bh : Bin h) (br : Bin r) (h0 : 0 < r.length) : Bin (can h r).1 ∧ Bin (can h r).2 := bin_rollR _ _ (fun x hx => bh x (List.mem_reverse.mp hx)) (bin_short br h0)
theorem row_can {h r : Wd} {n : Nat} (bh : Bin h) (br : Bin r) (h0 : 0 < r.length) (lh : h.length ≤ n) (lr : r.length ≤ n) : Row n (can h r) := by
  obtain ⟨a, b, c, d⟩ := can_can h r h0
  obtain ⟨e, f⟩ := bin_can bh br h0
  exact ⟨a, e, f, by omega, by omega⟩
theorem pair_run {gd gs gp : FN} (hd : Drw gd) (hs : Sgn gs) (hp : ∀ (h r : Wd), 0 < r.length → r.length ≤ 5000 → h.length ≤ 100000 → gp [.str h, .str r] = some (.ok false (tupD (can h r).1 (can h r).2) [.non, .non])) (b : Box) (m : Nat) (h0 : 0 < m) (h1 : m ≤ 1000) : ∃ (p : Wd × Wd) (b2 : Box), Row m p ∧ fnF [.pn, .sh] 0 (F__law_pair gd gs gp) [boxD b, .int (m : Int)] = some (.ok false (tupD p.1 p.2) [boxD b2, .non]) := by
  obtain ⟨n1, b1, l1, e1⟩ := hd b m h0 (by omega)
  obtain ⟨x, b2, bx, lx, e2⟩ := hs b1 n1 (by omega)
  obtain ⟨n2, b3, l2, e3⟩ := hd b2 m h0 (by omega)
  obtain ⟨y, b4, by_, ly, e4⟩ := hs b3 (1 + n2) (by omega)
  have e5 := hp x y (by omega) (by omega) (by omega)
  refine ⟨can x y, b4, row_can bx by_ (by omega) (by omega) (by omega), ?_⟩
  rw [show (((1 + n2 : Nat)) : Int) = 1 + (n2 : Int) by omega] at e4
  clear hd hs hp h0 h1 l1 l2 lx ly
  rw [fnF_eq _ _ _ _ rfl]
  show fn1 [.pn, .sh] (F__law_pair gd gs gp [pv (boxD b), sv (.int (m : Int))]) = _
  unfold F__law_pair
  walk_at "eh"
  rfl
end Lw
namespace Lw
open PySem PySem.Spec L2 Qd Qm
local macro_rules | `(tactic| walk_at "ev") => `(tactic| simp only [eVar_eq, eVar_k1, eK_eq, oS_eq, oS_k1, oE_eq, oE_k1, fetch_d, fetch_s, fetch_k1, eOp2_eq, op2k1_eq, op2k2_eq, op2k3_eq, op2k4_eq, pr_some, aNil_eq, aC2_eq, aCons_eq, aC1_eq, fetchs_nil, fts2_eq, fetchs_cons, fts1_eq, eA_eq, eA1_eq, eA2_eq, allD_nil, allD_cons, eDisp_eq, eD1_eq, eD2_0, eD2_1, eD2_2, eD2_3, eD2_4, eD2_5, eD2_6, pNo_eq, pAt_eq, pAt1_eq, eSl_eq, sl1_eq, sl2_eq, sl3_eq, sl4_eq, eAnd_eq, and1_eq, eOr_eq, or1_eq, eNot_eq, not1_eq, eIf_eq, if1_eq, eNeg_eq, neg1_eq, eM_eq, m0_eq, m1_str, m1_lst, m2_eq, m3_eq, m4_eq, mu4_eq, mu3_ow, mu3_pn, mu2_eq, mu1_eq, mu0_eq, eMut_eq, sSeq_eq, seq1_nx, seq1_bk, seq1_ct, seq1_rt, sNil_eq, sBk_eq, sCt_eq, sRetN_eq, sE_eq, se1_eq, sRet_eq, sRetF_eq, sret1_eq, sRetOw_eq, sRetOw1_eq, sIf_eq, sif1_eq, sg2_eq, sG_eq, sg1_eq, okSet_eq, okk_none, okk_sh, okk_ow, gN_eq, sOw_eq, ow1_eq, sFz_eq, fz1_ow, fz1_sh, fz1_pn, fz1_no, stl3_eq, stl2_ow, stl2_pn, stl1_eq, sSetL_eq, sFor_eq, sfor1_eq, sWhile_eq, iL_eq, il1_eq, il2_eq, bOf_d, bOf_s, iR1_eq, ir1_eq, fn1_rt, fn1_nx, eCall_eq, eCallF_eq, cv1_eq, cv2_1, cv2_2, cv2_3, cv3_eq, cvE_eq, cvF_eq, eCallB_eq, cb0_eq, cb1_1, cb1_2, cb1_3, cb2_bl, cb2_int, cb2_str, eCallP_eq, eCallPF_eq, cp0_eq, cp1_eq, cp2_eq, cp3_ow0, cp3_ow1, cp3_ow2, cp3_pn0, cp3_pn1, cp3_pn2, cp4_eq, eLc_eq, lc2_eq, eDc_eq, dc2_eq, bnd_some, mp_some, gt0, gtS, st0, stS, if_true, if_false, if_pos, Bool.true_eq_false, Bool.false_eq_true, stl0_eq2, stk_eq, ix0, ix1, ix2, ix3, ix4, ixT0, ixT1, ixT2, addD_i, subD_i, ltD_i, ltD_s, leD_i, gtD_i, gtD_s, geD_i, powD_18, lenD_l, lenD_t, lenD_d, eqD_s, neD_s, eqD_i, neD_i, decide_eq_true_eq, ↓reduceIte, decide_true, decide_false, not_true_eq_false, not_false_eq_true, Bool.not_true, Bool.not_false, List.length_map, List.length_cons, List.length_nil, Int.reduceLT, Int.reduceLE, Int.reduceNeg, and_self, and_true, true_and, mulD_r, mulD_l, modD_i, fdivD_i, Int.reduceAdd, Nat.reduceAdd, ixN50, ixN51, ixN52, ixN53, ixN54, slL_eq, slL_scr, listD_l, cut_up, cut_last, cut_all, slS_eq, inD_ls, inD_keys, wipe0, wipe1, rest0, rest1, gd_some, gd_none, decide_not, Bool.not_eq_true', decide_eq_false_iff_not, Classical.not_not, gPop_eq, allB_eq, List.nil_append, pk4_eq, pk3_ow, pk3_pn, pk2_eq, pk1_s, pk1_i, pk0_eq, ePopK_eq, sk3_eq, sk2_s, sk2_i, sk1_eq, sk0_eq, sSetK_eq, listD_keys, neD_nil, dropD_keys, eq_self, isi_non_bool, isi_non_int, isi_non_str, isi_non_tuple, isi_non_list, isi_bl_bool, isi_bl_int, isi_bl_str, isi_bl_tuple, isi_bl_list, isi_int_bool, isi_int_int, isi_int_str, isi_int_tuple, isi_int_list, isi_str_bool, isi_str_int, isi_str_str, isi_str_tuple, isi_str_list, isi_tup_bool, isi_tup_int, isi_tup_str, isi_tup_tuple, isi_tup_list, isi_lst_bool, isi_lst_int, isi_lst_str, isi_lst_tuple, isi_lst_list, isN_non, isN_bl, isN_int, isN_str, isN_tup, isN_lst, eqD_b, neD_b, startsD_eq, anyB_map, allB_map, sumD_map, maxD1_map, notInD_ls, notInD_keys, gsNil_eq, gsCons_eq, gsk_eq, gT2_eq, gT3_eq, iZ_eq, iz0_eq, iz1_eq, iz2_eq, sPin_eq, pin0_ow, pin0_sh, unpin_eq, unp_pn, pin1_nx, pin1_rt, cut_to, cut_from1, eFld_eq, fd0_eq, fd1_eq, sFd_eq, sfd0_eq, sfd1_ow, sfd1_pn, sfd2_eq, eMeth_eq, eMethF_eq, me0_eq, me1_eq, me2_eq, me3_0, me3_1, me3_2, me3_3, eMethP_eq, eMethPF_eq, mp0_ow, mp0_pn, mp1_eq, eNew_eq, nw0_eq, nw1_0, nw1_1, nw1_2, nw2_eq, exEq_eq, xq0_eq, xq1_eq, xq2_eq, xq3_eq, iso_eq, iso1_t, iS_eq, is1_eq, is0_eq, iR2_eq, ir2a_eq, ir2c_eq, maxD2_i, inD_sign, lc1_go, lcc_eq, dc1_go, dcc_eq, now_nil, now_cons, now1_sh, now1_none, bsV_nil, bsV_cons, Bool.and_true, Bool.true_and, fld_b, fld_r, set_b0, set_r0, set_b1, set_r1, isC_end, hasM_settle0, hasM_settle, hasM_head, hasM_ring, hasM_first, hasM_signs, hasM_later, hasM_behind, hasM_below, hasM_under, hasM_begins, hasM_starts, hasM_before, nin_nil, nin_cons, Nat.reduceBNe])
local macro_rules | `(tactic| walk_at "eh") => `(tactic| simp only [eVar_eq, eVar_k1, eK_eq, oS_eq, oS_k1, oE_eq, oE_k1, fetch_d, fetch_s, fetch_k1, eOp2_eq, op2k1_eq, op2k2_eq, op2k3_eq, op2k4_eq, pr_some, aNil_eq, aC2_eq, aCons_eq, aC1_eq, fetchs_nil, fts2_eq, fetchs_cons, fts1_eq, eA_eq, eA1_eq, eA2_eq, allD_nil, allD_cons, eDisp_eq, eD1_eq, eD2_0, eD2_1, eD2_2, eD2_3, eD2_4, eD2_5, eD2_6, pNo_eq, pAt_eq, pAt1_eq, eSl_eq, sl1_eq, sl2_eq, sl3_eq, sl4_eq, eAnd_eq, and1_eq, eOr_eq, or1_eq, eNot_eq, not1_eq, eIf_eq, if1_eq, eNeg_eq, neg1_eq, eM_eq, m0_eq, m1_str, m1_lst, m2_eq, m3_eq, m4_eq, mu4_eq, mu3_ow, mu3_pn, mu2_eq, mu1_eq, mu0_eq, eMut_eq, sSeq_eq, seq1_nx, seq1_bk, seq1_ct, seq1_rt, sNil_eq, sBk_eq, sCt_eq, sRetN_eq, sE_eq, se1_eq, sRet_eq, sRetF_eq, sret1_eq, sRetOw_eq, sRetOw1_eq, sIf_eq, sif1_eq, sg2_eq, sG_eq, sg1_eq, okSet_eq, okk_none, okk_sh, okk_ow, gN_eq, sOw_eq, ow1_eq, sFz_eq, fz1_ow, fz1_sh, fz1_pn, fz1_no, stl3_eq, stl2_ow, stl2_pn, stl1_eq, sSetL_eq, sFor_eq, sfor1_eq, sWhile_eq, iL_eq, il1_eq, il2_eq, bOf_d, bOf_s, iR1_eq, ir1_eq, fn1_rt, fn1_nx, eCall_eq, eCallF_eq, cv1_eq, cv2_1, cv2_2, cv2_3, cv3_eq, cvE_eq, cvF_eq, eCallB_eq, cb0_eq, cb1_1, cb1_2, cb1_3, cb2_bl, cb2_int, cb2_str, eCallP_eq, eCallPF_eq, cp0_eq, cp1_eq, cp2_eq, cp3_ow0, cp3_ow1, cp3_ow2, cp3_pn0, cp3_pn1, cp3_pn2, cp4_eq, eLc_eq, lc2_eq, eDc_eq, dc2_eq, bnd_some, mp_some, gt0, gtS, st0, stS, if_true, if_false, if_pos, Bool.true_eq_false, Bool.false_eq_true, stl0_eq2, stk_eq, ix0, ix1, ix2, ix3, ix4, ixT0, ixT1, ixT2, addD_i, subD_i, ltD_i, ltD_s, leD_i, gtD_i, gtD_s, geD_i, powD_18, lenD_l, lenD_t, lenD_d, eqD_s, neD_s, eqD_i, neD_i, decide_eq_true_eq, ↓reduceIte, decide_true, decide_false, not_true_eq_false, not_false_eq_true, Bool.not_true, Bool.not_false, List.length_map, List.length_cons, List.length_nil, Int.reduceLT, Int.reduceLE, Int.reduceNeg, and_self, and_true, true_and, mulD_r, mulD_l, modD_i, fdivD_i, Int.reduceAdd, Nat.reduceAdd, ixN50, ixN51, ixN52, ixN53, ixN54, slL_eq, slL_scr, listD_l, cut_up, cut_last, cut_all, slS_eq, inD_ls, inD_keys, wipe0, wipe1, rest0, rest1, gd_some, gd_none, decide_not, Bool.not_eq_true', decide_eq_false_iff_not, Classical.not_not, gPop_eq, allB_eq, List.nil_append, pk4_eq, pk3_ow, pk3_pn, pk2_eq, pk1_s, pk1_i, pk0_eq, ePopK_eq, sk3_eq, sk2_s, sk2_i, sk1_eq, sk0_eq, sSetK_eq, listD_keys, neD_nil, dropD_keys, eq_self, isi_non_bool, isi_non_int, isi_non_str, isi_non_tuple, isi_non_list, isi_bl_bool, isi_bl_int, isi_bl_str, isi_bl_tuple, isi_bl_list, isi_int_bool, isi_int_int, isi_int_str, isi_int_tuple, isi_int_list, isi_str_bool, isi_str_int, isi_str_str, isi_str_tuple, isi_str_list, isi_tup_bool, isi_tup_int, isi_tup_str, isi_tup_tuple, isi_tup_list, isi_lst_bool, isi_lst_int, isi_lst_str, isi_lst_tuple, isi_lst_list, isN_non, isN_bl, isN_int, isN_str, isN_tup, isN_lst, eqD_b, neD_b, startsD_eq, anyB_map, allB_map, sumD_map, maxD1_map, notInD_ls, notInD_keys, gsNil_eq, gsCons_eq, gsk_eq, gT2_eq, gT3_eq, iZ_eq, iz0_eq, iz1_eq, iz2_eq, sPin_eq, pin0_ow, pin0_sh, unpin_eq, unp_pn, pin1_nx, pin1_rt, cut_to, cut_from1, eFld_eq, fd0_eq, fd1_eq, sFd_eq, sfd0_eq, sfd1_ow, sfd1_pn, sfd2_eq, eMeth_eq, eMethF_eq, me0_eq, me1_eq, me2_eq, me3_0, me3_1, me3_2, me3_3, eMethP_eq, eMethPF_eq, mp0_ow, mp0_pn, mp1_eq, eNew_eq, nw0_eq, nw1_0, nw1_1, nw1_2, nw2_eq, exEq_eq, xq0_eq, xq1_eq, xq2_eq, xq3_eq, iso_eq, iso1_t, iS_eq, is1_eq, is0_eq, iR2_eq, ir2a_eq, ir2c_eq, maxD2_i, inD_sign, lc1_go, lcc_eq, dc1_go, dcc_eq, now_nil, now_cons, now1_sh, now1_none, bsV_nil, bsV_cons, Bool.and_true, Bool.true_and, fld_b, fld_r, set_b0, set_r0, set_b1, set_r1, isC_end, hasM_settle0, hasM_settle, hasM_head, hasM_ring, hasM_first, hasM_signs, hasM_later, hasM_behind, hasM_below, hasM_under, hasM_begins, hasM_starts, hasM_before, nin_nil, nin_cons, Nat.reduceBNe, *])
theorem lesser_run {g : FN} (hg : ∀ (h r : Wd), 0 < r.length → r.length ≤ 5000 → h.length ≤ 100000 → ∀ n : Nat, n ≤ 100000 → g [tupD h r, .int (n : Int)] = some (.ok false (.str (pre (sgn h r) n)) [.non, .non])) (h1 r1 h2 r2 : Wd) (p1 : 0 < r1.length) (p2 : 0 < r2.length) (q1 : r1.length ≤ 60) (q2 : r2.length ≤ 60) (s1 : h1.length ≤ 5000) (s2 : h2.length ≤ 5000) : fnF [.sh, .sh] 1 (F__law_lesser g) [tupD h1 r1, tupD h2 r2] = some (.ok false (.bl (ltR (sgn h1 r1) (sgn h2 r2))) [.non, .non]) := by
  have key : ltR (sgn h1 r1) (sgn h2 r2) = decide (pre (sgn h1 r1) (h1.length + h2.length + r1.length * r2.length) < pre (sgn h2 r2) (h1.length + h2.length + r1.length * r2.length)) := by
    rw [Bool.eq_iff_iff, ltR_iff, decide_eq_true_iff, pre_lt_iff fun z => agree_mul ((sgn_per h1 r1).ge (Nat.le_add_right _ h2.length)) ((sgn_per h2 r2).ge (Nat.le_add_left _ h1.length)) p1 p2 z]
  rw [key]
  have hm : r1.length * r2.length ≤ 60 * 60 := Nat.mul_le_mul q1 q2
  have a1 := hg h1 r1 p1 (by omega) (by omega) (h1.length + h2.length + r1.length * r2.length) (by omega)
  have a2 := hg h2 r2 p2 (by omega) (by omega) (h1.length + h2.length + r1.length * r2.length) (by omega)
  have e : ((h1.length + h2.length + r1.length * r2.length : Nat) : Int) = (h1.length : Int) + h2.length + (r1.length : Int) * r2.length := by
    rw [Int.natCast_add, Int.natCast_add, Int.natCast_mul]
  rw [e] at a1 a2
  have b1 := lenD_s h1 (by omega)
  have b2 := lenD_s h2 (by omega)
  have b3 := lenD_s r1 (by omega)
  have b4 := lenD_s r2 (by omega)
  have b5 := mulD_l (r1.length : Int) (r2.length : Int) (by omega)
  have t0 := ix_t0 h1 r1
  have t1 := ix_t1 h1 r1
  have t2 := ix_t0 h2 r2
  have t3 := ix_t1 h2 r2
  clear e key hg hm
  rw [fnF_eq _ _ _ _ rfl]
  show fn1 [.sh, .sh] (F__law_lesser g [sv (tupD h1 r1), sv (tupD h2 r2), none]) = _
  unfold F__law_lesser
  walk_at "eh"
  rfl
end Lw
namespace Lw
open PySem PySem.Spec L2 Qd Qm
local macro_rules | `(tactic| walk_at "ev") => `(tactic| simp only [eVar_eq, eVar_k1, eK_eq, oS_eq, oS_k1, oE_eq, oE_k1, fetch_d, fetch_s, fetch_k1, eOp2_eq, op2k1_eq, op2k2_eq, op2k3_eq, op2k4_eq, pr_some, aNil_eq, aC2_eq, aCons_eq, aC1_eq, fetchs_nil, fts2_eq, fetchs_cons, fts1_eq, eA_eq, eA1_eq, eA2_eq, allD_nil, allD_cons, eDisp_eq, eD1_eq, eD2_0, eD2_1, eD2_2, eD2_3, eD2_4, eD2_5, eD2_6, pNo_eq, pAt_eq, pAt1_eq, eSl_eq, sl1_eq, sl2_eq, sl3_eq, sl4_eq, eAnd_eq, and1_eq, eOr_eq, or1_eq, eNot_eq, not1_eq, eIf_eq, if1_eq, eNeg_eq, neg1_eq, eM_eq, m0_eq, m1_str, m1_lst, m2_eq, m3_eq, m4_eq, mu4_eq, mu3_ow, mu3_pn, mu2_eq, mu1_eq, mu0_eq, eMut_eq, sSeq_eq, seq1_nx, seq1_bk, seq1_ct, seq1_rt, sNil_eq, sBk_eq, sCt_eq, sRetN_eq, sE_eq, se1_eq, sRet_eq, sRetF_eq, sret1_eq, sRetOw_eq, sRetOw1_eq, sIf_eq, sif1_eq, sg2_eq, sG_eq, sg1_eq, okSet_eq, okk_none, okk_sh, okk_ow, gN_eq, sOw_eq, ow1_eq, sFz_eq, fz1_ow, fz1_sh, fz1_pn, fz1_no, stl3_eq, stl2_ow, stl2_pn, stl1_eq, sSetL_eq, sFor_eq, sfor1_eq, sWhile_eq, iL_eq, il1_eq, il2_eq, bOf_d, bOf_s, iR1_eq, ir1_eq, fn1_rt, fn1_nx, eCall_eq, eCallF_eq, cv1_eq, cv2_1, cv2_2, cv2_3, cv3_eq, cvE_eq, cvF_eq, eCallB_eq, cb0_eq, cb1_1, cb1_2, cb1_3, cb2_bl, cb2_int, cb2_str, eCallP_eq, eCallPF_eq, cp0_eq, cp1_eq, cp2_eq, cp3_ow0, cp3_ow1, cp3_ow2, cp3_pn0, cp3_pn1, cp3_pn2, cp4_eq, eLc_eq, lc2_eq, eDc_eq, dc2_eq, bnd_some, mp_some, gt0, gtS, st0, stS, if_true, if_false, if_pos, Bool.true_eq_false, Bool.false_eq_true, stl0_eq2, stk_eq, ix0, ix1, ix2, ix3, ix4, ixT0, ixT1, ixT2, addD_i, subD_i, ltD_i, ltD_s, leD_i, gtD_i, gtD_s, geD_i, powD_18, lenD_l, lenD_t, lenD_d, eqD_s, neD_s, eqD_i, neD_i, decide_eq_true_eq, ↓reduceIte, decide_true, decide_false, not_true_eq_false, not_false_eq_true, Bool.not_true, Bool.not_false, List.length_map, List.length_cons, List.length_nil, Int.reduceLT, Int.reduceLE, Int.reduceNeg, and_self, and_true, true_and, mulD_r, mulD_l, modD_i, fdivD_i, Int.reduceAdd, Nat.reduceAdd, ixN50, ixN51, ixN52, ixN53, ixN54, slL_eq, slL_scr, listD_l, cut_up, cut_last, cut_all, slS_eq, inD_ls, inD_keys, wipe0, wipe1, rest0, rest1, gd_some, gd_none, decide_not, Bool.not_eq_true', decide_eq_false_iff_not, Classical.not_not, gPop_eq, allB_eq, List.nil_append, pk4_eq, pk3_ow, pk3_pn, pk2_eq, pk1_s, pk1_i, pk0_eq, ePopK_eq, sk3_eq, sk2_s, sk2_i, sk1_eq, sk0_eq, sSetK_eq, listD_keys, neD_nil, dropD_keys, eq_self, isi_non_bool, isi_non_int, isi_non_str, isi_non_tuple, isi_non_list, isi_bl_bool, isi_bl_int, isi_bl_str, isi_bl_tuple, isi_bl_list, isi_int_bool, isi_int_int, isi_int_str, isi_int_tuple, isi_int_list, isi_str_bool, isi_str_int, isi_str_str, isi_str_tuple, isi_str_list, isi_tup_bool, isi_tup_int, isi_tup_str, isi_tup_tuple, isi_tup_list, isi_lst_bool, isi_lst_int, isi_lst_str, isi_lst_tuple, isi_lst_list, isN_non, isN_bl, isN_int, isN_str, isN_tup, isN_lst, eqD_b, neD_b, startsD_eq, anyB_map, allB_map, sumD_map, maxD1_map, notInD_ls, notInD_keys, gsNil_eq, gsCons_eq, gsk_eq, gT2_eq, gT3_eq, iZ_eq, iz0_eq, iz1_eq, iz2_eq, sPin_eq, pin0_ow, pin0_sh, unpin_eq, unp_pn, pin1_nx, pin1_rt, cut_to, cut_from1, eFld_eq, fd0_eq, fd1_eq, sFd_eq, sfd0_eq, sfd1_ow, sfd1_pn, sfd2_eq, eMeth_eq, eMethF_eq, me0_eq, me1_eq, me2_eq, me3_0, me3_1, me3_2, me3_3, eMethP_eq, eMethPF_eq, mp0_ow, mp0_pn, mp1_eq, eNew_eq, nw0_eq, nw1_0, nw1_1, nw1_2, nw2_eq, exEq_eq, xq0_eq, xq1_eq, xq2_eq, xq3_eq, iso_eq, iso1_t, iS_eq, is1_eq, is0_eq, iR2_eq, ir2a_eq, ir2c_eq, maxD2_i, inD_sign, lc1_go, lcc_eq, dc1_go, dcc_eq, now_nil, now_cons, now1_sh, now1_none, bsV_nil, bsV_cons, Bool.and_true, Bool.true_and, fld_b, fld_r, set_b0, set_r0, set_b1, set_r1, isC_end, hasM_settle0, hasM_settle, hasM_head, hasM_ring, hasM_first, hasM_signs, hasM_later, hasM_behind, hasM_below, hasM_under, hasM_begins, hasM_starts, hasM_before, nin_nil, nin_cons, Nat.reduceBNe])
local macro_rules | `(tactic| walk_at "eh") => `(tactic| simp only [eVar_eq, eVar_k1, eK_eq, oS_eq, oS_k1, oE_eq, oE_k1, fetch_d, fetch_s, fetch_k1, eOp2_eq, op2k1_eq, op2k2_eq, op2k3_eq, op2k4_eq, pr_some, aNil_eq, aC2_eq, aCons_eq, aC1_eq, fetchs_nil, fts2_eq, fetchs_cons, fts1_eq, eA_eq, eA1_eq, eA2_eq, allD_nil, allD_cons, eDisp_eq, eD1_eq, eD2_0, eD2_1, eD2_2, eD2_3, eD2_4, eD2_5, eD2_6, pNo_eq, pAt_eq, pAt1_eq, eSl_eq, sl1_eq, sl2_eq, sl3_eq, sl4_eq, eAnd_eq, and1_eq, eOr_eq, or1_eq, eNot_eq, not1_eq, eIf_eq, if1_eq, eNeg_eq, neg1_eq, eM_eq, m0_eq, m1_str, m1_lst, m2_eq, m3_eq, m4_eq, mu4_eq, mu3_ow, mu3_pn, mu2_eq, mu1_eq, mu0_eq, eMut_eq, sSeq_eq, seq1_nx, seq1_bk, seq1_ct, seq1_rt, sNil_eq, sBk_eq, sCt_eq, sRetN_eq, sE_eq, se1_eq, sRet_eq, sRetF_eq, sret1_eq, sRetOw_eq, sRetOw1_eq, sIf_eq, sif1_eq, sg2_eq, sG_eq, sg1_eq, okSet_eq, okk_none, okk_sh, okk_ow, gN_eq, sOw_eq, ow1_eq, sFz_eq, fz1_ow, fz1_sh, fz1_pn, fz1_no, stl3_eq, stl2_ow, stl2_pn, stl1_eq, sSetL_eq, sFor_eq, sfor1_eq, sWhile_eq, iL_eq, il1_eq, il2_eq, bOf_d, bOf_s, iR1_eq, ir1_eq, fn1_rt, fn1_nx, eCall_eq, eCallF_eq, cv1_eq, cv2_1, cv2_2, cv2_3, cv3_eq, cvE_eq, cvF_eq, eCallB_eq, cb0_eq, cb1_1, cb1_2, cb1_3, cb2_bl, cb2_int, cb2_str, eCallP_eq, eCallPF_eq, cp0_eq, cp1_eq, cp2_eq, cp3_ow0, cp3_ow1, cp3_ow2, cp3_pn0, cp3_pn1, cp3_pn2, cp4_eq, eLc_eq, lc2_eq, eDc_eq, dc2_eq, bnd_some, mp_some, gt0, gtS, st0, stS, if_true, if_false, if_pos, Bool.true_eq_false, Bool.false_eq_true, stl0_eq2, stk_eq, ix0, ix1, ix2, ix3, ix4, ixT0, ixT1, ixT2, addD_i, subD_i, ltD_i, ltD_s, leD_i, gtD_i, gtD_s, geD_i, powD_18, lenD_l, lenD_t, lenD_d, eqD_s, neD_s, eqD_i, neD_i, decide_eq_true_eq, ↓reduceIte, decide_true, decide_false, not_true_eq_false, not_false_eq_true, Bool.not_true, Bool.not_false, List.length_map, List.length_cons, List.length_nil, Int.reduceLT, Int.reduceLE, Int.reduceNeg, and_self, and_true, true_and, mulD_r, mulD_l, modD_i, fdivD_i, Int.reduceAdd, Nat.reduceAdd, ixN50, ixN51, ixN52, ixN53, ixN54, slL_eq, slL_scr, listD_l, cut_up, cut_last, cut_all, slS_eq, inD_ls, inD_keys, wipe0, wipe1, rest0, rest1, gd_some, gd_none, decide_not, Bool.not_eq_true', decide_eq_false_iff_not, Classical.not_not, gPop_eq, allB_eq, List.nil_append, pk4_eq, pk3_ow, pk3_pn, pk2_eq, pk1_s, pk1_i, pk0_eq, ePopK_eq, sk3_eq, sk2_s, sk2_i, sk1_eq, sk0_eq, sSetK_eq, listD_keys, neD_nil, dropD_keys, eq_self, isi_non_bool, isi_non_int, isi_non_str, isi_non_tuple, isi_non_list, isi_bl_bool, isi_bl_int, isi_bl_str, isi_bl_tuple, isi_bl_list, isi_int_bool, isi_int_int, isi_int_str, isi_int_tuple, isi_int_list, isi_str_bool, isi_str_int, isi_str_str, isi_str_tuple, isi_str_list, isi_tup_bool, isi_tup_int, isi_tup_str, isi_tup_tuple, isi_tup_list, isi_lst_bool, isi_lst_int, isi_lst_str, isi_lst_tuple, isi_lst_list, isN_non, isN_bl, isN_int, isN_str, isN_tup, isN_lst, eqD_b, neD_b, startsD_eq, anyB_map, allB_map, sumD_map, maxD1_map, notInD_ls, notInD_keys, gsNil_eq, gsCons_eq, gsk_eq, gT2_eq, gT3_eq, iZ_eq, iz0_eq, iz1_eq, iz2_eq, sPin_eq, pin0_ow, pin0_sh, unpin_eq, unp_pn, pin1_nx, pin1_rt, cut_to, cut_from1, eFld_eq, fd0_eq, fd1_eq, sFd_eq, sfd0_eq, sfd1_ow, sfd1_pn, sfd2_eq, eMeth_eq, eMethF_eq, me0_eq, me1_eq, me2_eq, me3_0, me3_1, me3_2, me3_3, eMethP_eq, eMethPF_eq, mp0_ow, mp0_pn, mp1_eq, eNew_eq, nw0_eq, nw1_0, nw1_1, nw1_2, nw2_eq, exEq_eq, xq0_eq, xq1_eq, xq2_eq, xq3_eq, iso_eq, iso1_t, iS_eq, is1_eq, is0_eq, iR2_eq, ir2a_eq, ir2c_eq, maxD2_i, inD_sign, lc1_go, lcc_eq, dc1_go, dcc_eq, now_nil, now_cons, now1_sh, now1_none, bsV_nil, bsV_cons, Bool.and_true, Bool.true_and, fld_b, fld_r, set_b0, set_r0, set_b1, set_r1, isC_end, hasM_settle0, hasM_settle, hasM_head, hasM_ring, hasM_first, hasM_signs, hasM_later, hasM_behind, hasM_below, hasM_under, hasM_begins, hasM_starts, hasM_before, nin_nil, nin_cons, Nat.reduceBNe, *])
theorem real_run {g : FN} (hg : ∀ (h r : Wd), 0 < r.length → r.length ≤ 60 → h.length ≤ 60 → Bin h → Bin r → g [.obj "Endless" [], .str h, .str r] = some (.ok false .non [endD (can h r).1 (can h r).2, .non, .non])) (h r : Wd) (h0 : 0 < r.length) (hr : r.length ≤ 60) (hh : h.length ≤ 60) (bh : Bin h) (br : Bin r) : fnF [.sh] 0 (F__law_real g) [tupD h r] = some (.ok true (endD (can h r).1 (can h r).2) [.non]) := by
  have a1 := hg h r h0 hr hh bh br
  have t0 := ix_t0 h r
  have t1 := ix_t1 h r
  clear hg
  rw [fnF_eq _ _ _ _ rfl]
  show fn1 [.sh] (F__law_real g [sv (tupD h r)]) = _
  unfold F__law_real
  walk_at "eh"
  rfl
end Lw
namespace Lw
open PySem PySem.Spec L2 Qd Qm
local macro_rules | `(tactic| walk_at "ev") => `(tactic| simp only [eVar_eq, eVar_k1, eK_eq, oS_eq, oS_k1, oE_eq, oE_k1, fetch_d, fetch_s, fetch_k1, eOp2_eq, op2k1_eq, op2k2_eq, op2k3_eq, op2k4_eq, pr_some, aNil_eq, aC2_eq, aCons_eq, aC1_eq, fetchs_nil, fts2_eq, fetchs_cons, fts1_eq, eA_eq, eA1_eq, eA2_eq, allD_nil, allD_cons, eDisp_eq, eD1_eq, eD2_0, eD2_1, eD2_2, eD2_3, eD2_4, eD2_5, eD2_6, pNo_eq, pAt_eq, pAt1_eq, eSl_eq, sl1_eq, sl2_eq, sl3_eq, sl4_eq, eAnd_eq, and1_eq, eOr_eq, or1_eq, eNot_eq, not1_eq, eIf_eq, if1_eq, eNeg_eq, neg1_eq, eM_eq, m0_eq, m1_str, m1_lst, m2_eq, m3_eq, m4_eq, mu4_eq, mu3_ow, mu3_pn, mu2_eq, mu1_eq, mu0_eq, eMut_eq, sSeq_eq, seq1_nx, seq1_bk, seq1_ct, seq1_rt, sNil_eq, sBk_eq, sCt_eq, sRetN_eq, sE_eq, se1_eq, sRet_eq, sRetF_eq, sret1_eq, sRetOw_eq, sRetOw1_eq, sIf_eq, sif1_eq, sg2_eq, sG_eq, sg1_eq, okSet_eq, okk_none, okk_sh, okk_ow, gN_eq, sOw_eq, ow1_eq, sFz_eq, fz1_ow, fz1_sh, fz1_pn, fz1_no, stl3_eq, stl2_ow, stl2_pn, stl1_eq, sSetL_eq, sFor_eq, sfor1_eq, sWhile_eq, iL_eq, il1_eq, il2_eq, bOf_d, bOf_s, iR1_eq, ir1_eq, fn1_rt, fn1_nx, eCall_eq, eCallF_eq, cv1_eq, cv2_1, cv2_2, cv2_3, cv3_eq, cvE_eq, cvF_eq, eCallB_eq, cb0_eq, cb1_1, cb1_2, cb1_3, cb2_bl, cb2_int, cb2_str, eCallP_eq, eCallPF_eq, cp0_eq, cp1_eq, cp2_eq, cp3_ow0, cp3_ow1, cp3_ow2, cp3_pn0, cp3_pn1, cp3_pn2, cp4_eq, eLc_eq, lc2_eq, eDc_eq, dc2_eq, bnd_some, mp_some, gt0, gtS, st0, stS, if_true, if_false, if_pos, Bool.true_eq_false, Bool.false_eq_true, stl0_eq2, stk_eq, ix0, ix1, ix2, ix3, ix4, ixT0, ixT1, ixT2, addD_i, subD_i, ltD_i, ltD_s, leD_i, gtD_i, gtD_s, geD_i, powD_18, lenD_l, lenD_t, lenD_d, eqD_s, neD_s, eqD_i, neD_i, decide_eq_true_eq, ↓reduceIte, decide_true, decide_false, not_true_eq_false, not_false_eq_true, Bool.not_true, Bool.not_false, List.length_map, List.length_cons, List.length_nil, Int.reduceLT, Int.reduceLE, Int.reduceNeg, and_self, and_true, true_and, mulD_r, mulD_l, modD_i, fdivD_i, Int.reduceAdd, Nat.reduceAdd, ixN50, ixN51, ixN52, ixN53, ixN54, slL_eq, slL_scr, listD_l, cut_up, cut_last, cut_all, slS_eq, inD_ls, inD_keys, wipe0, wipe1, rest0, rest1, gd_some, gd_none, decide_not, Bool.not_eq_true', decide_eq_false_iff_not, Classical.not_not, gPop_eq, allB_eq, List.nil_append, pk4_eq, pk3_ow, pk3_pn, pk2_eq, pk1_s, pk1_i, pk0_eq, ePopK_eq, sk3_eq, sk2_s, sk2_i, sk1_eq, sk0_eq, sSetK_eq, listD_keys, neD_nil, dropD_keys, eq_self, isi_non_bool, isi_non_int, isi_non_str, isi_non_tuple, isi_non_list, isi_bl_bool, isi_bl_int, isi_bl_str, isi_bl_tuple, isi_bl_list, isi_int_bool, isi_int_int, isi_int_str, isi_int_tuple, isi_int_list, isi_str_bool, isi_str_int, isi_str_str, isi_str_tuple, isi_str_list, isi_tup_bool, isi_tup_int, isi_tup_str, isi_tup_tuple, isi_tup_list, isi_lst_bool, isi_lst_int, isi_lst_str, isi_lst_tuple, isi_lst_list, isN_non, isN_bl, isN_int, isN_str, isN_tup, isN_lst, eqD_b, neD_b, startsD_eq, anyB_map, allB_map, sumD_map, maxD1_map, notInD_ls, notInD_keys, gsNil_eq, gsCons_eq, gsk_eq, gT2_eq, gT3_eq, iZ_eq, iz0_eq, iz1_eq, iz2_eq, sPin_eq, pin0_ow, pin0_sh, unpin_eq, unp_pn, pin1_nx, pin1_rt, cut_to, cut_from1, eFld_eq, fd0_eq, fd1_eq, sFd_eq, sfd0_eq, sfd1_ow, sfd1_pn, sfd2_eq, eMeth_eq, eMethF_eq, me0_eq, me1_eq, me2_eq, me3_0, me3_1, me3_2, me3_3, eMethP_eq, eMethPF_eq, mp0_ow, mp0_pn, mp1_eq, eNew_eq, nw0_eq, nw1_0, nw1_1, nw1_2, nw2_eq, exEq_eq, xq0_eq, xq1_eq, xq2_eq, xq3_eq, iso_eq, iso1_t, iS_eq, is1_eq, is0_eq, iR2_eq, ir2a_eq, ir2c_eq, maxD2_i, inD_sign, lc1_go, lcc_eq, dc1_go, dcc_eq, now_nil, now_cons, now1_sh, now1_none, bsV_nil, bsV_cons, Bool.and_true, Bool.true_and, fld_b, fld_r, set_b0, set_r0, set_b1, set_r1, isC_end, hasM_settle0, hasM_settle, hasM_head, hasM_ring, hasM_first, hasM_signs, hasM_later, hasM_behind, hasM_below, hasM_under, hasM_begins, hasM_starts, hasM_before, nin_nil, nin_cons, Nat.reduceBNe])
local macro_rules | `(tactic| walk_at "eh") => `(tactic| simp only [eVar_eq, eVar_k1, eK_eq, oS_eq, oS_k1, oE_eq, oE_k1, fetch_d, fetch_s, fetch_k1, eOp2_eq, op2k1_eq, op2k2_eq, op2k3_eq, op2k4_eq, pr_some, aNil_eq, aC2_eq, aCons_eq, aC1_eq, fetchs_nil, fts2_eq, fetchs_cons, fts1_eq, eA_eq, eA1_eq, eA2_eq, allD_nil, allD_cons, eDisp_eq, eD1_eq, eD2_0, eD2_1, eD2_2, eD2_3, eD2_4, eD2_5, eD2_6, pNo_eq, pAt_eq, pAt1_eq, eSl_eq, sl1_eq, sl2_eq, sl3_eq, sl4_eq, eAnd_eq, and1_eq, eOr_eq, or1_eq, eNot_eq, not1_eq, eIf_eq, if1_eq, eNeg_eq, neg1_eq, eM_eq, m0_eq, m1_str, m1_lst, m2_eq, m3_eq, m4_eq, mu4_eq, mu3_ow, mu3_pn, mu2_eq, mu1_eq, mu0_eq, eMut_eq, sSeq_eq, seq1_nx, seq1_bk, seq1_ct, seq1_rt, sNil_eq, sBk_eq, sCt_eq, sRetN_eq, sE_eq, se1_eq, sRet_eq, sRetF_eq, sret1_eq, sRetOw_eq, sRetOw1_eq, sIf_eq, sif1_eq, sg2_eq, sG_eq, sg1_eq, okSet_eq, okk_none, okk_sh, okk_ow, gN_eq, sOw_eq, ow1_eq, sFz_eq, fz1_ow, fz1_sh, fz1_pn, fz1_no, stl3_eq, stl2_ow, stl2_pn, stl1_eq, sSetL_eq, sFor_eq, sfor1_eq, sWhile_eq, iL_eq, il1_eq, il2_eq, bOf_d, bOf_s, iR1_eq, ir1_eq, fn1_rt, fn1_nx, eCall_eq, eCallF_eq, cv1_eq, cv2_1, cv2_2, cv2_3, cv3_eq, cvE_eq, cvF_eq, eCallB_eq, cb0_eq, cb1_1, cb1_2, cb1_3, cb2_bl, cb2_int, cb2_str, eCallP_eq, eCallPF_eq, cp0_eq, cp1_eq, cp2_eq, cp3_ow0, cp3_ow1, cp3_ow2, cp3_pn0, cp3_pn1, cp3_pn2, cp4_eq, eLc_eq, lc2_eq, eDc_eq, dc2_eq, bnd_some, mp_some, gt0, gtS, st0, stS, if_true, if_false, if_pos, Bool.true_eq_false, Bool.false_eq_true, stl0_eq2, stk_eq, ix0, ix1, ix2, ix3, ix4, ixT0, ixT1, ixT2, addD_i, subD_i, ltD_i, ltD_s, leD_i, gtD_i, gtD_s, geD_i, powD_18, lenD_l, lenD_t, lenD_d, eqD_s, neD_s, eqD_i, neD_i, decide_eq_true_eq, ↓reduceIte, decide_true, decide_false, not_true_eq_false, not_false_eq_true, Bool.not_true, Bool.not_false, List.length_map, List.length_cons, List.length_nil, Int.reduceLT, Int.reduceLE, Int.reduceNeg, and_self, and_true, true_and, mulD_r, mulD_l, modD_i, fdivD_i, Int.reduceAdd, Nat.reduceAdd, ixN50, ixN51, ixN52, ixN53, ixN54, slL_eq, slL_scr, listD_l, cut_up, cut_last, cut_all, slS_eq, inD_ls, inD_keys, wipe0, wipe1, rest0, rest1, gd_some, gd_none, decide_not, Bool.not_eq_true', decide_eq_false_iff_not, Classical.not_not, gPop_eq, allB_eq, List.nil_append, pk4_eq, pk3_ow, pk3_pn, pk2_eq, pk1_s, pk1_i, pk0_eq, ePopK_eq, sk3_eq, sk2_s, sk2_i, sk1_eq, sk0_eq, sSetK_eq, listD_keys, neD_nil, dropD_keys, eq_self, isi_non_bool, isi_non_int, isi_non_str, isi_non_tuple, isi_non_list, isi_bl_bool, isi_bl_int, isi_bl_str, isi_bl_tuple, isi_bl_list, isi_int_bool, isi_int_int, isi_int_str, isi_int_tuple, isi_int_list, isi_str_bool, isi_str_int, isi_str_str, isi_str_tuple, isi_str_list, isi_tup_bool, isi_tup_int, isi_tup_str, isi_tup_tuple, isi_tup_list, isi_lst_bool, isi_lst_int, isi_lst_str, isi_lst_tuple, isi_lst_list, isN_non, isN_bl, isN_int, isN_str, isN_tup, isN_lst, eqD_b, neD_b, startsD_eq, anyB_map, allB_map, sumD_map, maxD1_map, notInD_ls, notInD_keys, gsNil_eq, gsCons_eq, gsk_eq, gT2_eq, gT3_eq, iZ_eq, iz0_eq, iz1_eq, iz2_eq, sPin_eq, pin0_ow, pin0_sh, unpin_eq, unp_pn, pin1_nx, pin1_rt, cut_to, cut_from1, eFld_eq, fd0_eq, fd1_eq, sFd_eq, sfd0_eq, sfd1_ow, sfd1_pn, sfd2_eq, eMeth_eq, eMethF_eq, me0_eq, me1_eq, me2_eq, me3_0, me3_1, me3_2, me3_3, eMethP_eq, eMethPF_eq, mp0_ow, mp0_pn, mp1_eq, eNew_eq, nw0_eq, nw1_0, nw1_1, nw1_2, nw2_eq, exEq_eq, xq0_eq, xq1_eq, xq2_eq, xq3_eq, iso_eq, iso1_t, iS_eq, is1_eq, is0_eq, iR2_eq, ir2a_eq, ir2c_eq, maxD2_i, inD_sign, lc1_go, lcc_eq, dc1_go, dcc_eq, now_nil, now_cons, now1_sh, now1_none, bsV_nil, bsV_cons, Bool.and_true, Bool.true_and, fld_b, fld_r, set_b0, set_r0, set_b1, set_r1, isC_end, hasM_settle0, hasM_settle, hasM_head, hasM_ring, hasM_first, hasM_signs, hasM_later, hasM_behind, hasM_below, hasM_under, hasM_begins, hasM_starts, hasM_before, nin_nil, nin_cons, Nat.reduceBNe, *])
abbrev gDraw : FN := fnF [.pn, .sh] 3 F__law_draw
abbrev gSig : FN := fnF [.pn, .sh] 1 (F__law_signs gDraw)
abbrev gPla : FN := fnF [.sh, .sh] 2 F__law_plain
abbrev gFir : FN := fnF [.sh, .sh] 0 F__law_first
abbrev gPai : FN := fnF [.pn, .sh] 0 (F__law_pair gDraw gSig gPla)
abbrev gNH : FN := fnF [.sh] 0 (F_need_head (fnF [.sh] 0 (F_is_head (fnF [.sh] 1 F_is_signs))))
abbrev gSet : FN := fnF [.pn, .sh, .sh] 0 (F_Endless__settle (fnF [.sh] 1 F_shortest_ring))
abbrev gIni : FN := fnF [.pn, .sh, .sh] 0 (F_Endless____init__ gNH gSet)
abbrev gRea : FN := fnF [.sh] 0 (F__law_real gIni)
abbrev gLes : FN := fnF [.sh, .sh] 1 (F__law_lesser gFir)
abbrev gBef : FN := fnF [.sh, .sh] 1 (F_Endless__before (fnF [.sh, .sh] 1 F_Endless__first))
abbrev gEqE : FN := fnF [.sh, .sh] 0 F_Endless____eq__
theorem gIni_run (h r : Wd) (h0 : 0 < r.length) (hr : r.length ≤ 60) (hh : h.length ≤ 60) (bh : Bin h) (br : Bin r) : gIni [.obj "Endless" [], .str h, .str r] = some (.ok false .non [endD (can h r).1 (can h r).2, .non, .non]) :=
  init_run (fun x hx hb => need_head_run (fun x hx => is_head_run is_signs_run x hx) x hx hb) (fun o ho h r a b c => settle_run shortest_run o ho h r a b c) h r h0 hr hh bh br
abbrev lawF : FN := fnF [.sh] 9 (F_law (fnF [.sh] 2 F__law_open) gPai gDraw gFir gPla gRea gLes gBef (recN GLike 5) gEqE gIni)
theorem bin_pre {h r : Wd} (bh : Bin h) (br : Bin r) (h0 : 0 < r.length) (n : Nat) : Bin (pre (sgn h r) n) := fun c hc => by
  unfold Qm.pre at hc
  obtain ⟨i, _, rfl⟩ := List.mem_map.mp hc
  unfold sgn
  split
  · rename_i h
    rw [List.getD_eq_getElem?_getD, List.getElem?_eq_getElem h]
    exact bh _ (List.getElem_mem h)
  · have hm := Nat.mod_lt (i - h.length) h0
    rw [List.getD_eq_getElem?_getD, List.getElem?_eq_getElem hm]
    exact br _ (List.getElem_mem hm)
theorem law_run0 (ns : List Int) : ∃ outs, lawF [.scr ns] = some (.ok false (.bl true) outs) := by
  suffices h : W (lawF [.scr ns]) fun r => ∃ outs, r = .ok false (.bl true) outs by
    obtain ⟨r, h, outs, rfl⟩ := h
    exact ⟨outs, h⟩
  obtain ⟨r, eO, b, rfl⟩ := open_run ns
  have hg : Drw gDraw := drw
  have kp : ∀ (b : Box) (m : Nat), 0 < m → m ≤ 1000 → ∃ (p : Wd × Wd) (b2 : Box), Row m p ∧ gPai [boxD b, .int (m : Int)] = some (.ok false (tupD p.1 p.2) [boxD b2, .non]) := fun b m h0 h1 => pair_run hg (signs_run hg) plain_run b m h0 h1
  have kl := fun (t : Bool) => like_refl 0 (.bl t) rfl 5 (by omega)
  have kb : ∀ p q : Wd × Wd, Row 60 p → Row 60 q → gBef [endD p.1 p.2, endD q.1 q.2] = some (.ok false (.bl (ltR (sgn p.1 p.2) (sgn q.1 q.2))) [.non, .non]) := fun p q hp hq => before_run (fun h r a b c n d => first_run h r a b c n d) _ _ _ _ hp.1.prim.1 hq.1.prim.1 (by have := hp.2.2.2.2; omega) (by have := hq.2.2.2.2; omega) (by have := hp.2.2.2.1; omega) (by have := hq.2.2.2.1; omega)
  have ks : ∀ p q : Wd × Wd, Row 60 p → Row 60 q → gLes [tupD p.1 p.2, tupD q.1 q.2] = some (.ok false (.bl (ltR (sgn p.1 p.2) (sgn q.1 q.2))) [.non, .non]) := fun p q hp hq => lesser_run (fun h r a b c n d => lfirst_run h r a b c n d) _ _ _ _ hp.1.prim.1 hq.1.prim.1 (by have := hp.2.2.2.2; omega) (by have := hq.2.2.2.2; omega) (by have := hp.2.2.2.1; omega) (by have := hq.2.2.2.1; omega)
  have kr : ∀ p : Wd × Wd, Row 60 p → gRea [tupD p.1 p.2] = some (.ok true (endD p.1 p.2) [.non]) := fun p hp => by
    have := real_run gIni_run p.1 p.2 hp.1.prim.1 hp.2.2.2.2 hp.2.2.2.1 hp.2.1 hp.2.2.1
    rwa [can_self hp.1] at this
  have kf : ∀ (h r : Wd), 0 < r.length → r.length ≤ 5000 → h.length ≤ 100000 → ∀ n : Nat, n ≤ 100000 → gFir [tupD h r, .int (n : Int)] = some (.ok false (.str (Qm.pre (sgn h r) n)) [.non, .non]) := fun h r h0 hr hh n hn => lfirst_run h r h0 hr hh n hn
  have kpl : ∀ (h r : Wd), 0 < r.length → r.length ≤ 5000 → h.length ≤ 100000 → gPla [.str h, .str r] = some (.ok false (tupD (can h r).1 (can h r).2) [.non, .non]) := plain_run
  have ke : ∀ h1 r1 h2 r2 : Wd, gEqE [endD h1 r1, endD h2 r2] = some (.ok false (.bl (decide (h1 = h2) && decide (r1 = r2))) [.non, .non]) := end_eq_run
  have i1 := gIni_run [] [48] (by decide) (by decide) (by decide) (by simp [Bin]) (by simp [Bin])
  have i2 := gIni_run [48, 48, 48] [48] (by decide) (by decide) (by decide) (by simp [Bin]) (by simp [Bin])
  have i3 : gBef [endD (can [] [48]).1 (can [] [48]).2, endD (can [48, 48, 48] [48]).1 (can [48, 48, 48] [48]).2] = some (.ok false (.bl false) [.non, .non]) := by
    obtain ⟨a1, a2, a3, a4⟩ := can_can [] [48] (by decide)
    obtain ⟨b1, b2, b3, b4⟩ := can_can [48, 48, 48] [48] (by decide)
    refine (before_run (fun h r a b c n d => first_run h r a b c n d) _ _ _ _ a1.prim.1 b1.prim.1 (Nat.le_trans a4 (by decide)) (Nat.le_trans b4 (by decide)) (Nat.le_trans a3 (by decide)) (Nat.le_trans b3 (by decide))).trans ?_
    congr 4
    rw [Bool.eq_false_iff]
    intro z
    obtain ⟨d, _, hd⟩ := ltR_iff.mp z
    rw [a2, b2] at hd
    have hz : ∀ i, sgn [] [48] i = 48 := fun i => by
      rw [sgn_nil]
      simp [Nat.mod_one]
    have hy : ∀ i, sgn [48, 48, 48] [48] i = 48 := fun i => by
      rcases Nat.lt_or_ge i 3 with h | h
      · rcases (show i = 0 ∨ i = 1 ∨ i = 2 by omega) with rfl | rfl | rfl <;> rfl
      · rw [sgn_ge (by simpa using h), hz]
    rw [hz, hy] at hd
    omega
  unfold lawF
  generalize fnF [.sh] 2 F__law_open = gO at *
  generalize gPai = gP at *
  generalize gPla = gPl at *
  generalize gFir = gF at *
  generalize gRea = gR at *
  generalize gLes = gLs at *
  generalize gBef = gB at *
  generalize gEqE = gE at *
  generalize gIni = gI at *
  generalize recN GLike 5 = gL at *
  generalize gDraw = gD at *
  rw [fnF_eq _ _ _ _ rfl]
  show W (fn1 [.sh] (F_law gO gP gD gF gPl gR gLs gB gL gE gI [sv (.scr ns), none, none, none, none, none, none, none, none, none])) _
  unfold F_law
  walk_at "eh"
  refine W.fnK (W.forK (fun items e => ∃ b x2 x3 x4 x5 x6 x7 x8 x9, e = [sv (.scr ns), ov (boxD b), x2, x3, x4, x5, x6, x7, x8, x9] ∧ Sh x2 ∧ ShO x3 ∧ Sh x4 ∧ Sh x5 ∧ Sh x6 ∧ Sh x7 ∧ Sh x8 ∧ Sh x9) ⟨b, none, none, none, none, none, none, none, none, rfl, Sh.no, .inl Sh.no, Sh.no, Sh.no, Sh.no, Sh.no, Sh.no, Sh.no⟩ ?_ ?_)
  · rintro e ⟨b, x2, x3, x4, x5, x6, x7, x8, x9, rfl, _⟩
    refine ⟨rfl, ?_⟩
    walk_at "eh"
    exact W.ret (W.ret ⟨_, rfl⟩)
  · rintro d ds e ⟨b, x2, x3, x4, x5, x6, x7, x8, x9, rfl, s2, s3, s4, s5, s6, s7, s8, s9⟩
    have o2 := s2.okk
    have o3 := s3.okk
    have o4 := s4.okk
    have o5 := s5.okk
    have w8 := now1_of s8
    refine ⟨rfl, [sv (.scr ns), ov (boxD b), sv d, x3, x4, x5, x6, x7, x8, x9], by walk_at "eh", ?_⟩
    obtain ⟨p1, b1, r1, e1⟩ := kp b 9 (by omega) (by omega)
    obtain ⟨p2, b2, r2, e2⟩ := kp b1 9 (by omega) (by omega)
    obtain ⟨n, b3, hn, e3⟩ := hg b2 50 (by omega) (by omega)
    rw [show ((9 : Nat) : Int) = 9 from rfl] at e1 e2
    rw [show ((50 : Nat) : Int) = 50 from rfl] at e3
    have e4 := kf p1.1 p1.2 r1.1.prim.1 (by have := r1.2.2.2.2; omega) (by have := r1.2.2.2.1; omega) n (by omega)
    have e5 := kpl (pre (sgn p1.1 p1.2) n) p2.2 r2.1.prim.1 (by have := r2.2.2.2.2; omega) (by rw [pre_len]; omega)
    have r3 : Row 60 (can (pre (sgn p1.1 p1.2) n) p2.2) := row_can (bin_pre r1.2.1 r1.2.2.1 r1.1.prim.1 n) r2.2.2.1 r2.1.prim.1 (by rw [pre_len]; omega) (by have := r2.2.2.2.2; omega)
    generalize can (pre (sgn p1.1 p1.2) n) p2.2 = p3 at *
    have r1 : Row 60 p1 := ⟨r1.1, r1.2.1, r1.2.2.1, by have := r1.2.2.2.1; omega, by have := r1.2.2.2.2; omega⟩
    have r2 : Row 60 p2 := ⟨r2.1, r2.2.1, r2.2.2.1, by have := r2.2.2.2.1; omega, by have := r2.2.2.2.2; omega⟩
    have e6 := gApp_eq [tupD p1.1 p1.2, tupD p2.1 p2.2] (tupD p3.1 p3.2) (by simp)
    have t0 := ix_t1 p2.1 p2.2
    obtain ⟨P, hP, rP⟩ : ∃ P : List (Wd × Wd), [p1, p2, p3] = P ∧ ∀ p ∈ P, Row 60 p := ⟨_, rfl, fun p hp => by
      simp only [List.mem_cons, List.not_mem_nil, or_false] at hp
      rcases hp with rfl | rfl | rfl <;> assumption⟩
    have hPd : [tupD p1.1 p1.2, tupD p2.1 p2.2] ++ [tupD p3.1 p3.2] = P.map fun p => tupD p.1 p.2 := by rw [← hP]; rfl
    rw [hPd] at e6
    have hPl : P.length = 3 := by rw [← hP]; rfl
    clear kp hg kf kpl hPd
    walk_at "eh"
    rw [lcL_map (fun p : Wd × Wd => tupD p.1 p.2) (fun p => endD p.1 p.2) (by simp [chkB, beqD_refl]) P (by omega) fun p hp => ⟨[sv (.scr ns), ov (boxD b3), sv d, ov (.lst (P.map fun p => tupD p.1 p.2)), sv (.int (n : Int)), x5, x6, x7, sv (tupD p.1 p.2), x9], by walk_at "ev", by walk_at "ev", ?_, by walk_at "ev"⟩]
    · walk_at "eh"
      clear e1 e2 e3 e4 e5 e6 t0 eO
      have fin : ∀ y6 y7 y9, Sh y6 → Sh y7 → Sh y9 → W (seq1 (sIf (eAnd (eMeth "Endless" "before" [.sh, .sh] gB (eOp2 ixD (oS 5) (oE (eK (.int 0)))) (aCons (oE (eOp2 ixD (oS 5) (oE (eK (.int 1))))) aNil)) (eAnd (eMeth "Endless" "before" [.sh, .sh] gB (eOp2 ixD (oS 5) (oE (eK (.int 1)))) (aCons (oE (eOp2 ixD (oS 5) (oE (eK (.int 2))))) aNil)) (eNot (eMeth "Endless" "before" [.sh, .sh] gB (eOp2 ixD (oS 5) (oE (eK (.int 0)))) (aCons (oE (eOp2 ixD (oS 5) (oE (eK (.int 2))))) aNil))))) (sRet (eK (.bl false))) sNil) (.nx [sv (.scr ns), ov (boxD b3), sv d, ov (.lst (P.map fun p => tupD p.1 p.2)), sv (.int (n : Int)), sv (.lst (P.map fun p => endD p.1 p.2)), y6, y7, x8, y9])) (fun o => o = .nx [sv (.scr ns), ov (boxD b3), sv d, ov (.lst (P.map fun p => tupD p.1 p.2)), sv (.int (n : Int)), sv (.lst (P.map fun p => endD p.1 p.2)), y6, y7, x8, y9]) := fun y6 y7 y9 t6 t7 t9 => by
        have q1 := kb p1 p2 r1 r2
        have q2 := kb p2 p3 r2 r3
        have q3 := kb p1 p3 r1 r3
        clear kb ks kr ke kl i1 i2 i3
        have hm : P.map (fun p => endD p.1 p.2) = [endD p1.1 p1.2, endD p2.1 p2.2, endD p3.1 p3.2] := by rw [← hP]; rfl
        rw [hm]
        clear hm hP rP hPl
        by_cases c1 : Lt (sgn p1.1 p1.2) (sgn p2.1 p2.2)
        · rw [ltR_iff.mpr c1] at q1
          by_cases c2 : Lt (sgn p2.1 p2.2) (sgn p3.1 p3.2)
          · rw [ltR_iff.mpr c2] at q2
            rw [ltR_iff.mpr (c1.trans c2)] at q3
            clear c1 c2
            walk_at "eh"
            exact W.ret rfl
          · rw [Bool.eq_false_iff.mpr fun z => c2 (ltR_iff.mp z)] at q2
            clear c1 c2
            walk_at "eh"
            exact W.ret rfl
        · rw [Bool.eq_false_iff.mpr fun z => c1 (ltR_iff.mp z)] at q1
          clear c1
          walk_at "eh"
          exact W.ret rfl
      refine W.forK (fun items e => ∃ (i : Nat) (y6 y7 y9 : Option Sl), e = [sv (.scr ns), ov (boxD b3), sv d, ov (.lst (P.map fun p => tupD p.1 p.2)), sv (.int (n : Int)), sv (.lst (P.map fun p => endD p.1 p.2)), y6, y7, x8, y9] ∧ Sh y6 ∧ Sh y7 ∧ Sh y9 ∧ items = rng (i : Int) (3 - i)) ⟨0, x6, x7, x9, rfl, s6, s7, s9, rfl⟩ ?_ ?_
      · rintro e ⟨i, y6, y7, y9, rfl, t6, t7, t9, hi⟩
        refine ⟨rfl, (fin y6 y7 y9 t6 t7 t9).mono fun o ho => ?_⟩
        subst ho
        exact Aft.nx ⟨b3, _, _, _, _, _, _, _, _, rfl, Sh.sh _, .inr ⟨_, rfl⟩, Sh.sh _, Sh.sh _, t6, t7, s8, t9⟩
      · rintro z zs e ⟨i, y6, y7, y9, rfl, t6, t7, t9, hi⟩
        have hl : i < 3 := by
          have := congrArg List.length hi
          rw [rng_len] at this
          simp at this
          omega
        rw [show 3 - i = (3 - (i + 1)) + 1 by omega, rng] at hi
        obtain ⟨rfl, rfl⟩ := List.cons.inj hi
        have v6 := t6.okk
        refine ⟨rfl, [sv (.scr ns), ov (boxD b3), sv d, ov (.lst (P.map fun p => tupD p.1 p.2)), sv (.int (n : Int)), sv (.lst (P.map fun p => endD p.1 p.2)), sv (.int (i : Int)), y7, x8, y9], by walk_at "eh", ?_⟩
        clear fin v6
        walk_at "ev"
        refine W.forL (fun items e => ∃ (j : Nat) (y7 y9 : Option Sl), e = [sv (.scr ns), ov (boxD b3), sv d, ov (.lst (P.map fun p => tupD p.1 p.2)), sv (.int (n : Int)), sv (.lst (P.map fun p => endD p.1 p.2)), sv (.int (i : Int)), y7, x8, y9] ∧ Sh y7 ∧ Sh y9 ∧ items = rng (j : Int) (3 - j)) ?_ ?_ _ _ ⟨0, y7, y9, rfl, t7, t9, rfl⟩
        · rintro e ⟨j, y7, y9, rfl, t7, t9, hj⟩
          exact ⟨rfl, Aft.nx ⟨i + 1, _, _, _, rfl, Sh.sh _, t7, t9, rfl⟩⟩
        · rintro z zs e ⟨j, y7, y9, rfl, t7, t9, hj⟩
          have hl2 : j < 3 := by
            have := congrArg List.length hj
            rw [rng_len] at this
            simp at this
            omega
          rw [show 3 - j = (3 - (j + 1)) + 1 by omega, rng] at hj
          obtain ⟨rfl, rfl⟩ := List.cons.inj hj
          have v7 := t7.okk
          have v9 := t9.okk
          refine ⟨rfl, [sv (.scr ns), ov (boxD b3), sv d, ov (.lst (P.map fun p => tupD p.1 p.2)), sv (.int (n : Int)), sv (.lst (P.map fun p => endD p.1 p.2)), sv (.int (i : Int)), sv (.int (j : Int)), x8, y9], by walk_at "eh", ?_⟩
          have ga : P[i]? = some P[i] := List.getElem?_eq_getElem (by omega)
          have gb : P[j]? = some P[j] := List.getElem?_eq_getElem (by omega)
          have ra := rP P[i] (List.getElem_mem _)
          have rb := rP P[j] (List.getElem_mem _)
          generalize P[i] = pa at *
          generalize P[j] = pb at *
          have u1 : ixD (.lst (P.map fun p => tupD p.1 p.2)) (.int (i : Int)) = some (tupD pa.1 pa.2) := ixD_l (by rw [List.getElem?_map, ga]; rfl)
          have u2 : ixD (.lst (P.map fun p => tupD p.1 p.2)) (.int (j : Int)) = some (tupD pb.1 pb.2) := ixD_l (by rw [List.getElem?_map, gb]; rfl)
          have u3 : ixD (.lst (P.map fun p => endD p.1 p.2)) (.int (i : Int)) = some (endD pa.1 pa.2) := ixD_l (by rw [List.getElem?_map, ga]; rfl)
          have u4 : ixD (.lst (P.map fun p => endD p.1 p.2)) (.int (j : Int)) = some (endD pb.1 pb.2) := ixD_l (by rw [List.getElem?_map, gb]; rfl)
          have q1 := ks pa pb ra rb
          have q2 := kb pa pb ra rb
          have q3 := kb pb pa rb ra
          have q4 := ke pa.1 pa.2 pb.1 pb.2
          have q5 := kl true
          have q6 := kl false
          clear kb ks kr ke kl ga gb
          by_cases c1 : Lt (sgn pa.1 pa.2) (sgn pb.1 pb.2)
          · have c2 : ¬ Lt (sgn pb.1 pb.2) (sgn pa.1 pa.2) := fun z => c1.asymm z
            rw [ltR_iff.mpr c1] at q1 q2
            rw [Bool.eq_false_iff.mpr fun z => c2 (ltR_iff.mp z)] at q3
            clear c1 c2
            walk_at "eh"
            exact W.ret (Aft.nx ⟨j + 1, _, _, rfl, Sh.sh _, Sh.sh _, rfl⟩)
          · rw [Bool.eq_false_iff.mpr fun z => c1 (ltR_iff.mp z)] at q1 q2
            by_cases c2 : Lt (sgn pb.1 pb.2) (sgn pa.1 pa.2)
            · rw [ltR_iff.mpr c2] at q3
              clear c1 c2
              walk_at "eh"
              exact W.ret (Aft.nx ⟨j + 1, _, _, rfl, Sh.sh _, Sh.sh _, rfl⟩)
            · rw [Bool.eq_false_iff.mpr fun z => c2 (ltR_iff.mp z)] at q3
              obtain ⟨z1, z2⟩ := ra.1.uniq rb.1 (Lt.tri c1 c2)
              rw [z1, z2, decide_eq_true rfl, decide_eq_true rfl] at q4
              rw [z1, z2] at u3 q2 q3
              clear c1 c2 z1 z2
              walk_at "eh"
              exact W.ret (Aft.nx ⟨j + 1, _, _, rfl, Sh.sh _, Sh.sh _, rfl⟩)
    · have q := kr p (rP p hp)
      clear kb ks kr ke kl
      walk_at "eh"
theorem law_run (ns : List Int) : ∃ outs, G_law [.scr ns] = some (.ok false (.bl true) outs) := law_run0 ns
end Lw
namespace Lw
open PySem PySem.Spec PyProof.Rows L2 Qd
def dd_is_signs : He.DefD := ⟨("is_signs", none), "is_signs", "is_signs", defArgs st_is_signs, defBody st_is_signs, defScope st_is_signs, [], []⟩
def dd_is_head : He.DefD := ⟨("is_head", none), "is_head", "is_head", defArgs st_is_head, defBody st_is_head, defScope st_is_head, [], []⟩
def dd_need_head : He.DefD := ⟨("need_head", none), "need_head", "need_head", defArgs st_need_head, defBody st_need_head, defScope st_need_head, [], []⟩
def dd_shortest_ring : He.DefD := ⟨("shortest_ring", none), "shortest_ring", "shortest_ring", defArgs st_shortest_ring, defBody st_shortest_ring, defScope st_shortest_ring, [], []⟩
def dd_Endless__settle : He.DefD := ⟨("Endless", some "settle"), "settle", "Endless.settle", defArgs st_Endless__settle, defBody st_Endless__settle, defScope st_Endless__settle, [], []⟩
def dd_Endless____init__ : He.DefD := ⟨("Endless", some "__init__"), "__init__", "Endless.__init__", defArgs st_Endless____init__, defBody st_Endless____init__, defScope st_Endless____init__, [], []⟩
def dd_Endless__first : He.DefD := ⟨("Endless", some "first"), "first", "Endless.first", defArgs st_Endless__first, defBody st_Endless__first, defScope st_Endless__first, [], []⟩
def dd_Endless__before : He.DefD := ⟨("Endless", some "before"), "before", "Endless.before", defArgs st_Endless__before, defBody st_Endless__before, defScope st_Endless__before, [], []⟩
def dd_Endless____eq__ : He.DefD := ⟨("Endless", some "__eq__"), "__eq__", "Endless.__eq__", defArgs st_Endless____eq__, defBody st_Endless____eq__, defScope st_Endless____eq__, [], []⟩
def dd__law_open : He.DefD := ⟨("_law_open", none), "_law_open", "_law_open", defArgs st__law_open, defBody st__law_open, defScope st__law_open, [], []⟩
def dd__law_draw : He.DefD := ⟨("_law_draw", none), "_law_draw", "_law_draw", defArgs st__law_draw, defBody st__law_draw, defScope st__law_draw, [], []⟩
def dd__law_int : He.DefD := ⟨("_law_int", none), "_law_int", "_law_int", defArgs st__law_int, defBody st__law_int, defScope st__law_int, [], []⟩
def dd__law_like : He.DefD := ⟨("_law_like", none), "_law_like", "_law_like", defArgs st__law_like, defBody st__law_like, defScope st__law_like, [], []⟩
def dd__law_signs : He.DefD := ⟨("_law_signs", none), "_law_signs", "_law_signs", defArgs st__law_signs, defBody st__law_signs, defScope st__law_signs, [], []⟩
def dd__law_plain : He.DefD := ⟨("_law_plain", none), "_law_plain", "_law_plain", defArgs st__law_plain, defBody st__law_plain, defScope st__law_plain, [], []⟩
def dd__law_first : He.DefD := ⟨("_law_first", none), "_law_first", "_law_first", defArgs st__law_first, defBody st__law_first, defScope st__law_first, [], []⟩
def dd__law_real : He.DefD := ⟨("_law_real", none), "_law_real", "_law_real", defArgs st__law_real, defBody st__law_real, defScope st__law_real, [], []⟩
def dd__law_pair : He.DefD := ⟨("_law_pair", none), "_law_pair", "_law_pair", defArgs st__law_pair, defBody st__law_pair, defScope st__law_pair, [], []⟩
def dd__law_lesser : He.DefD := ⟨("_law_lesser", none), "_law_lesser", "_law_lesser", defArgs st__law_lesser, defBody st__law_lesser, defScope st__law_lesser, [], []⟩
def dd_law : He.DefD := ⟨("law", none), "law", "law", defArgs st_law, defBody st_law, defScope st_law, [], []⟩
def fnL : List He.DefD := [dd_is_signs, dd_is_head, dd_need_head, dd_shortest_ring, dd_Endless__settle, dd_Endless____init__, dd_Endless__first, dd_Endless__before, dd_Endless____eq__, dd__law_open, dd__law_draw, dd__law_int, dd__law_like, dd__law_signs, dd__law_plain, dd__law_first, dd__law_real, dd__law_pair, dd__law_lesser, dd_law]
def faL : List He.Fa := [.glo "is_signs", .glo "is_head", .glo "need_head", .glo "shortest_ring", .meth "Endless" "settle", .mkr "Endless", .glo "Endless", .meth "Endless" "first", .meth "Endless" "before", .meth "Endless" "__eq__", .glo "_law_open", .glo "_law_draw", .glo "_law_int", .glo "_law_like", .glo "_law_signs", .glo "_law_plain", .glo "_law_first", .glo "_law_real", .glo "_law_pair", .glo "_law_lesser", .glo "law", .free "all", .free "len", .free "range", .free "max", .free "isinstance", .free "list", .free "int", .free "bool", .free "str", .free "tuple", .str "SIGNS" (S [48, 49]), .int "LONGEST" 60, .cls "Endless", .noat "Endless" "begun", .noat "Endless" "round"]
def xfL : List XFa := [insB "Endless"]
abbrev Rw : PySem.W.OpenRow := PySem.W.OpenLaw.row PySem.Challenge.rw_headswap_k07_whole_rows_in_order
abbrev hk : PySem.W.Hook := hookX 4 xfL faL fnL
def ob (s : PySem.W.SharedT) : AlX := obsX 4 xfL faL fnL (HandSHeadRun.getT s)
theorem ob_eq (s : PySem.W.SharedT) : ob s = hk.obs s.abs := obsX_eq (HandSHeadRun.getT_eq s)
theorem runH (w : World) : HandSHeadRun.RunEq Rw (PySem.W.view Rw.prog [29]) hk ob 6000 ["_wall", "SwapError", "BadHead", "BadRing", "BadNumber", "is_signs", "is_head", "need_head", "shortest_ring", "need_count", "Endless", "_law_open", "_law_draw", "_law_int", "_law_like", "_law_signs", "_law_plain", "_law_first", "_law_real", "_law_pair", "_law_lesser", "LONGEST", "SIGNS", "SHOWN", "MOST_SIGNS"] w := by
  intro os
  kernel_rfl
theorem facts {P : Program} {w : World} {K : PySem.W.Frag} {h : Heap} {mg : Str → Option Value} {f : Addr} (X : K.In h) (G : h.Ns mainGlobals mg) (hfa : mg ("law" : Str) = some (.ref f)) (c : SaysX xfL faL fnL K) :
    ∃ fd : FuncData, (∀ (s : Shared) (v : Value), BindsTo s fd ⟨[v], []⟩ [("_law_script", v)]) ∧ ∀ base : Heap, K.In base → base.Ns mainGlobals mg → FnOk P w K mg base CX0 7 f fd ["_law_script"] (spD K [.sh] G_law) := by
  obtain ⟨fd_is_signs, F_D_is_signs⟩ := c.2.def_ 0 (d := dd_is_signs) rfl
  have a_is_signs := He.glo_ok X G (c.2.fact 0 (f := .glo "is_signs") rfl)
  obtain ⟨fd_is_head, F_D_is_head⟩ := c.2.def_ 1 (d := dd_is_head) rfl
  have a_is_head := He.glo_ok X G (c.2.fact 1 (f := .glo "is_head") rfl)
  obtain ⟨fd_need_head, F_D_need_head⟩ := c.2.def_ 2 (d := dd_need_head) rfl
  have a_need_head := He.glo_ok X G (c.2.fact 2 (f := .glo "need_head") rfl)
  obtain ⟨fd_shortest_ring, F_D_shortest_ring⟩ := c.2.def_ 3 (d := dd_shortest_ring) rfl
  have a_shortest_ring := He.glo_ok X G (c.2.fact 3 (f := .glo "shortest_ring") rfl)
  obtain ⟨fd_Endless__settle, F_D_Endless__settle⟩ := c.2.def_ 4 (d := dd_Endless__settle) rfl
  have M_Endless__settle := He.meth_ok (c.2.fact 4 (f := .meth "Endless" "settle") rfl)
  obtain ⟨fd_Endless____init__, F_D_Endless____init__⟩ := c.2.def_ 5 (d := dd_Endless____init__) rfl
  have M_Endless____init__ := He.mkr_ok (c.2.fact 5 (f := .mkr "Endless") rfl)
  have a_Endless____init__ := He.glo_ok X G (c.2.fact 6 (f := .glo "Endless") rfl)
  obtain ⟨fd_Endless__first, F_D_Endless__first⟩ := c.2.def_ 6 (d := dd_Endless__first) rfl
  have M_Endless__first := He.meth_ok (c.2.fact 7 (f := .meth "Endless" "first") rfl)
  obtain ⟨fd_Endless__before, F_D_Endless__before⟩ := c.2.def_ 7 (d := dd_Endless__before) rfl
  have M_Endless__before := He.meth_ok (c.2.fact 8 (f := .meth "Endless" "before") rfl)
  obtain ⟨fd_Endless____eq__, F_D_Endless____eq__⟩ := c.2.def_ 8 (d := dd_Endless____eq__) rfl
  have M_Endless____eq__ := He.meth_ok (c.2.fact 9 (f := .meth "Endless" "__eq__") rfl)
  obtain ⟨fd__law_open, F_D__law_open⟩ := c.2.def_ 9 (d := dd__law_open) rfl
  have a__law_open := He.glo_ok X G (c.2.fact 10 (f := .glo "_law_open") rfl)
  obtain ⟨fd__law_draw, F_D__law_draw⟩ := c.2.def_ 10 (d := dd__law_draw) rfl
  have a__law_draw := He.glo_ok X G (c.2.fact 11 (f := .glo "_law_draw") rfl)
  obtain ⟨fd__law_int, F_D__law_int⟩ := c.2.def_ 11 (d := dd__law_int) rfl
  have a__law_int := He.glo_ok X G (c.2.fact 12 (f := .glo "_law_int") rfl)
  obtain ⟨fd__law_like, F_D__law_like⟩ := c.2.def_ 12 (d := dd__law_like) rfl
  have a__law_like := He.glo_ok X G (c.2.fact 13 (f := .glo "_law_like") rfl)
  obtain ⟨fd__law_signs, F_D__law_signs⟩ := c.2.def_ 13 (d := dd__law_signs) rfl
  have a__law_signs := He.glo_ok X G (c.2.fact 14 (f := .glo "_law_signs") rfl)
  obtain ⟨fd__law_plain, F_D__law_plain⟩ := c.2.def_ 14 (d := dd__law_plain) rfl
  have a__law_plain := He.glo_ok X G (c.2.fact 15 (f := .glo "_law_plain") rfl)
  obtain ⟨fd__law_first, F_D__law_first⟩ := c.2.def_ 15 (d := dd__law_first) rfl
  have a__law_first := He.glo_ok X G (c.2.fact 16 (f := .glo "_law_first") rfl)
  obtain ⟨fd__law_real, F_D__law_real⟩ := c.2.def_ 16 (d := dd__law_real) rfl
  have a__law_real := He.glo_ok X G (c.2.fact 17 (f := .glo "_law_real") rfl)
  obtain ⟨fd__law_pair, F_D__law_pair⟩ := c.2.def_ 17 (d := dd__law_pair) rfl
  have a__law_pair := He.glo_ok X G (c.2.fact 18 (f := .glo "_law_pair") rfl)
  obtain ⟨fd__law_lesser, F_D__law_lesser⟩ := c.2.def_ 18 (d := dd__law_lesser) rfl
  have a__law_lesser := He.glo_ok X G (c.2.fact 19 (f := .glo "_law_lesser") rfl)
  obtain ⟨fd_law, F_D_law⟩ := c.2.def_ 19 (d := dd_law) rfl
  have a_law := He.glo_ok X G (c.2.fact 20 (f := .glo "law") rfl)
  have e := hfa.symm.trans a_law
  cases e
  have gm : Gm K mg := ⟨He.free_ok X G (c.2.fact 21 (f := .free "all") rfl), He.free_ok X G (c.2.fact 22 (f := .free "len") rfl), He.free_ok X G (c.2.fact 23 (f := .free "range") rfl), He.free_ok X G (c.2.fact 24 (f := .free "max") rfl), He.free_ok X G (c.2.fact 25 (f := .free "isinstance") rfl), He.free_ok X G (c.2.fact 26 (f := .free "list") rfl), He.free_ok X G (c.2.fact 27 (f := .free "int") rfl), He.free_ok X G (c.2.fact 28 (f := .free "bool") rfl), He.free_ok X G (c.2.fact 29 (f := .free "str") rfl), He.free_ok X G (c.2.fact 30 (f := .free "tuple") rfl), He.str_ok X G (c.2.fact 31 (f := .str "SIGNS" (S [48, 49])) rfl), He.int_ok X G (c.2.fact 32 (f := .int "LONGEST" 60) rfl), He.cls_ok (c.2.fact 33 (f := .cls "Endless") rfl), He.noat_ok (c.2.fact 34 (f := .noat "Endless" "begun") rfl), He.noat_ok (c.2.fact 35 (f := .noat "Endless" "round") rfl), He.glo_ok X G (c.2.fact 6 (f := .glo "Endless") rfl), insB_ok (He.cls_ok (c.2.fact 33 (f := .cls "Endless") rfl)) (c.x 0 (f := insB "Endless") rfl)⟩
  have b := FunD.bindsA (ps := ["_law_script"]) F_D_law fun _ _ _ _ _ _ us hl => match us, hl with | [_], _ => rfl
  refine ⟨fd_law, fun s v => b s [v] rfl, fun base _ _ => ?_⟩
  have c_is_signs : Kn P w K mg base 1 "is_signs" [.sh] G_is_signs := ok_is_signs (k := 0) gm F_D_is_signs a_is_signs 
  have c_is_head : Kn P w K mg base 2 "is_head" [.sh] G_is_head := ok_is_head (k := 1) gm F_D_is_head a_is_head (c_is_signs.mono (by decide))
  have c_need_head : Kn P w K mg base 3 "need_head" [.sh] G_need_head := ok_need_head (k := 2) gm F_D_need_head a_need_head (c_is_head.mono (by decide))
  have c_shortest_ring : Kn P w K mg base 1 "shortest_ring" [.sh] G_shortest_ring := ok_shortest_ring (k := 0) gm F_D_shortest_ring a_shortest_ring 
  have c_Endless__settle : Km P w K mg base 2 "Endless" "settle" [.pn, .sh, .sh] G_Endless__settle := ok_Endless__settle (k := 1) gm F_D_Endless__settle M_Endless__settle (c_shortest_ring.mono (by decide))
  have c_Endless____init__ : Kc P w K mg base 4 "Endless" [.sh, .sh] G_Endless____init__ := ok_Endless____init__ (k := 3) gm F_D_Endless____init__ a_Endless____init__ M_Endless____init__ (c_need_head.mono (by decide)) (c_Endless__settle.mono (by decide))
  have c_Endless__first : Km P w K mg base 1 "Endless" "first" [.sh, .sh] G_Endless__first := ok_Endless__first (k := 0) gm F_D_Endless__first M_Endless__first 
  have c_Endless__before : Km P w K mg base 2 "Endless" "before" [.sh, .sh] G_Endless__before := ok_Endless__before (k := 1) gm F_D_Endless__before M_Endless__before (c_Endless__first.mono (by decide))
  have c_Endless____eq__ : Km P w K mg base 1 "Endless" "__eq__" [.sh, .sh] G_Endless____eq__ := ok_Endless____eq__ (k := 0) gm F_D_Endless____eq__ M_Endless____eq__ 
  have c__law_open : Kn P w K mg base 1 "_law_open" [.sh] G__law_open := ok__law_open (k := 0) gm F_D__law_open a__law_open 
  have c__law_draw : Kn P w K mg base 1 "_law_draw" [.pn, .sh] G__law_draw := ok__law_draw (k := 0) gm F_D__law_draw a__law_draw 
  have c__law_int : Kn P w K mg base 1 "_law_int" [.sh] G__law_int := ok__law_int (k := 0) gm F_D__law_int a__law_int 
  have c__law_like : Kn P w K mg base 6 "_law_like" [.sh, .sh] G__law_like := by
    refine Kn.recur (m := 1) (Kn.none a__law_like F_D__law_like.kp (F_D__law_like.bindsN (ps := ["_law_found", "_law_due"]) fun _ _ _ _ _ _ us hl => match us, hl with | [_, _], _ => rfl)) (fun k g hk C => ?_) 5
    exact ok__law_like gm F_D__law_like a__law_like (c__law_int.mono (by omega)) C
  have c__law_signs : Kn P w K mg base 2 "_law_signs" [.pn, .sh] G__law_signs := ok__law_signs (k := 1) gm F_D__law_signs a__law_signs (c__law_draw.mono (by decide))
  have c__law_plain : Kn P w K mg base 1 "_law_plain" [.sh, .sh] G__law_plain := ok__law_plain (k := 0) gm F_D__law_plain a__law_plain 
  have c__law_first : Kn P w K mg base 1 "_law_first" [.sh, .sh] G__law_first := ok__law_first (k := 0) gm F_D__law_first a__law_first 
  have c__law_real : Kn P w K mg base 6 "_law_real" [.sh] G__law_real := ok__law_real (k := 4) gm F_D__law_real a__law_real (c_Endless____init__.mono (by decide))
  have c__law_pair : Kn P w K mg base 3 "_law_pair" [.pn, .sh] G__law_pair := ok__law_pair (k := 2) gm F_D__law_pair a__law_pair (c__law_draw.mono (by decide)) (c__law_signs.mono (by decide)) (c__law_plain.mono (by decide))
  have c__law_lesser : Kn P w K mg base 2 "_law_lesser" [.sh, .sh] G__law_lesser := ok__law_lesser (k := 1) gm F_D__law_lesser a__law_lesser (c__law_first.mono (by decide))
  exact ok_law (k := 5) gm F_D_law a_law (c__law_open.mono (by decide)) (c__law_pair.mono (by decide)) (c__law_draw.mono (by decide)) (c__law_first.mono (by decide)) (c__law_plain.mono (by decide)) (c__law_real.mono (by decide)) (c__law_lesser.mono (by decide)) (c_Endless__before.mono (by decide)) (c__law_like.mono (by decide)) (c_Endless____eq__.mono (by decide)) (c_Endless____init__.mono (by decide))
end Lw
open PySem PySem.W PySem.Calls PyProof.Rows Lw Qd
theorem PySem.Challenge.cw_headswap_k07_whole_rows_in_order_holds : PySem.Challenge.rw_headswap_k07_whole_rows_in_order.Holds := by
  w_on; o_law
  refine HandSHeadRun.head_any (r := OpenLaw.row PySem.Challenge.rw_headswap_k07_whole_rows_in_order) (q := view (OpenLaw.row PySem.Challenge.rw_headswap_k07_whole_rows_in_order).prog [29]) (H := Lw.hk) (ob := Lw.ob) (M := 6000) (loose := ["_wall", "SwapError", "BadHead", "BadRing", "BadNumber", "is_signs", "is_head", "need_head", "shortest_ring", "need_count", "Endless", "_law_open", "_law_draw", "_law_int", "_law_like", "_law_signs", "_law_plain", "_law_first", "_law_real", "_law_pair", "_law_lesser", "LONGEST", "SIGNS", "SHOWN", "MOST_SIGNS"]) (d := HandSHeadRun.topDef (OpenLaw.row PySem.Challenge.rw_headswap_k07_whole_rows_in_order).prog 29) (kwd := []) Lw.ob_eq
    (by kernel_rfl) (fun s => by kernel_rfl) Lw.runH (by kernel_rfl) (by kernel_rfl) (by kernel_rfl) (by rfl) (by first | assumption | decide +kernel) (by decide +kernel) ⟨rfl, rfl, rfl, rfl, rfl, by decide +kernel⟩ ?hw ?hc
  case hw => w_witness2
  case hc =>
    refine L2.walk_ofE (l := PySem.Challenge.rw_headswap_k07_whole_rows_in_order) (n := 63) (k := 7) (x := "_law_script") (CX := L2.CX0) rfl (by decide) (by kernel_rfl) ⟨rfl, by decide, by decide⟩ ?F (fun _ _ _ _ z => z)
    intro w mg fa h Y G hmg0
    obtain ⟨K, KX, c⟩ := Y
    have hmg : mg ("law" : PySem.Str) = some (.ref fa) := by
      have e : (HandSHeadRun.topDef (OpenLaw.row PySem.Challenge.rw_headswap_k07_whole_rows_in_order).prog 29).name = ("law" : PySem.Str) := by kernel_rfl
      rw [← e]
      exact hmg0
    obtain ⟨fd, hb, hF⟩ := Lw.facts (P := (PySem.Challenge.rw_headswap_k07_whole_rows_in_order).prog) (w := w) KX G hmg c
    exact ⟨K, fd, Qd.spD K [.sh] Lw.G_law, KX, hb, fun H a ns hl _ hS => Qd.spD_script ns hS (Lw.law_run ns), hF⟩
